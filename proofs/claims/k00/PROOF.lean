import PyProof.Rows.All
import Wide.All
import OpenK.AllK
import Wide.FinOn
import HandS.ForMost
import HandS.ForExc
import HandS.Flow
import HandS.Wide
import HandS.Deep
import HandS.Zip
import HandS.Walk
import HandS.SortInts
import HandS.Lambda
import HandS.Comp
import HandS.More
import HandS.Strs
import HandS.IsInst
import HandS.TupAny
import HandS.Style
import HandS.TupMul
import KE.KIndexOf
import KE.GoesMore
import KE.GoesEnum
import HandS.Defaults
import HandS.SortOrd
import PyProof.TupleOfSeq
import KE.OsSort
import HandS.Star
import HandS.Conv
import HandS.Exc
import KE.KExcIs
import HandS.ExcOwn
import HandS.HeadHook1
import HandS.ExcIs
import HandS.DictComp
import HandS.HeadHook4
import HandS.HeadWalk
import HandS.SetFor
import KE.KDictZip
import HandS.OwnIter
import HandS.Spec
import PyProof.Rows.SeqMore
import HandS.CallLocal
import HandS.ExcInit
import HandS.ExcField
import HandS.ExcSuper
import KE.KExcSuper
import HandS.Ends
import HandS.Words
import HandS.WordsExc
import HandS.Head0
import HandS.Head1
import HandS.Head2
import HandS.HeadEnd
import HandS.HeadHook2
import KE.KStateDown
import PySem.Challenge.RW_asifcopied_k00_heaps_judged
set_option Elab.async false
set_option linter.all false
set_option maxRecDepth 100000
set_option maxHeartbeats 4000000
namespace DL
open PySem PySem.Spec L2
abbrev Sl := List (Option V)
/-- the tables of code objects that the law's lambdas are found in, and the names that these bear -/
class LamT where
  tk : List (Addr × Str)
  /-- the classes' addresses -/
  ob : Str → Addr
variable [LamT]
/-- no table of code objects -/
def NTb (o : HO) : Prop := ∀ ps, o ≠ .tbl ps
theorem ntb_lst {vs : List V} : NTb (.lst vs) := fun ps z => nomatch z
theorem ntb_dK {kvs : List (Key × V)} : NTb (.dK kvs) := fun ps z => nomatch z
theorem ntb_ins {C dx : Addr} {fs : List (Str × V)} : NTb (.ins C dx fs) := fun ps z => nomatch z
theorem ntb_ext {φ : Heap → Prop} : NTb (.ext φ) := fun ps z => nomatch z
theorem ntb_xd {fs : List (Str × V)} : NTb (.xd fs) := fun ps z => nomatch z
theorem ntb_tup {vs : List V} : NTb (.tup vs) := fun ps z => nomatch z
/-- nothing stands at a, or a table -/
def Nw (H : Hp) (a : Addr) : Prop := ∀ o, H a = some o → ¬ NTb o
theorem nw_of {H : Hp} {a : Addr} (h : H a = none) : Nw H a := fun o e => by
  rw [h] at e
  cases e

/-- the object at a: an exception of the class cls, its dict d -/
def exT (a : Addr) (cls : Value) (d : Option Addr) : HO := .ext fun h => ∃ ob, h.get? a = some ob ∧ ob.cls = cls ∧ ob.dict = d ∧ ∃ vs, ob.data = .fields vs
inductive D where
  | non | bl (b : Bool) | int (i : Int) | str (x : Str)
  | tup (ds : List D) | pt (ds : List D) | lst (ds : List D) | fz (ds : List D)
  | dic (ks : List Key) (ds : List D)
  | fd (ks : List Key) (ds : List D)
  | obj (C : Addr) (fs : List Str) (ds : List D)
  | op (v : V)
  | exc (C : Addr)
  | exd (C : Addr) (fs : List (Str × V))
  | ow (a : Addr) (ds : List D)
  | fw (o : Addr → HO)
  | fo (C : Addr) (fs : List Str) (ds : List D)

mutual
inductive Rep (K : PySem.W.Frag) (Z : Addr → Prop) (H : Hp) : D → V → List Addr → Prop
  | non : Rep K Z H .non .non []
  | bl (b : Bool) : Rep K Z H (.bl b) (.bl b) []
  | int (i : Int) : Rep K Z H (.int i) (.int i) []
  | str (x : Str) : Rep K Z H (.str x) (.str x) []
  | tup {a : Addr} {ds : List D} {vs : List V} {F : List Addr} : SqT K H a vs → Reps K Z H ds vs F → Rep K Z H (.tup ds) (.ref a) F
  | pt {a : Addr} {ob : Obj} {ds : List D} {vs : List V} {F : List Addr} : H a = some (.frz ob (.tup vs)) → ob.dict = none → Reps K Z H ds vs F → Rep K Z H (.pt ds) (.ref a) F
  | lst {a : Addr} {ds : List D} {vs : List V} {F : List Addr} : H a = some (.lst vs) → Reps K Z H ds vs F → Rep K Z H (.lst ds) (.ref a) (a :: F)
  | fz {a : Addr} {ds : List D} {vs : List V} : ((Z a ∧ Rd H a (.lst vs)) ∨ ∀ H', SqL K H' a vs) → Reps K Z H ds vs [] → Rep K Z H (.fz ds) (.ref a) []
  | dic {a : Addr} {ks : List Key} {ds : List D} {vs : List V} {F : List Addr} : H a = some (.dK (ks.zip vs)) → ks.length = vs.length → Reps K Z H ds vs F → Rep K Z H (.dic ks ds) (.ref a) (a :: F)
  | fd {a : Addr} {ks : List Key} {ds : List D} {vs : List V} : (Z a ∧ H a = some (.dK (ks.zip vs)) ∧ ks.length = vs.length) → Reps K Z H ds vs [] → Rep K Z H (.fd ks ds) (.ref a) []
  | obj {a C dx : Addr} {fs : List Str} {ds : List D} {vs : List V} {F : List Addr} : H a = some (.ins C dx (fs.zip vs)) → fs.length = vs.length → Reps K Z H ds vs F → Rep K Z H (.obj C fs ds) (.ref a) (a :: F)
  | op (v : V) : Rep K Z H (.op v) v []
  | exc {a C : Addr} : H a = some (exT a (.ref C) none) → Rep K Z H (.exc C) (.ref a) [a]
  | exd {a d C : Addr} {fs : List (Str × V)} : H a = some (exT a (.ref C) (some d)) → H d = some (.xd fs) → Rep K Z H (.exd C fs) (.ref a) [a, d]
  | ow {a : Addr} {ds : List D} {vs : List V} {F : List Addr} : H a = some (.lst vs) → Reps K Z H ds vs F → Rep K Z H (.ow a ds) (.ref a) (a :: F)
  | fw {a : Addr} {o : Addr → HO} : Z a → H a = some (o a) → NTb (o a) → Rep K Z H (.fw o) (.ref a) []
  | fo {a C dx : Addr} {fs : List Str} {ds : List D} {vs : List V} : Z a → H a = some (.ins C dx (fs.zip vs)) → fs.length = vs.length → Reps K Z H ds vs [] → Rep K Z H (.fo C fs ds) (.ref a) []
inductive Reps (K : PySem.W.Frag) (Z : Addr → Prop) (H : Hp) : List D → List V → List Addr → Prop
  | nil : Reps K Z H [] [] []
  | cons {d : D} {v : V} {F : List Addr} {ds : List D} {vs : List V} {G : List Addr} : Rep K Z H d v F → Reps K Z H ds vs G → Reps K Z H (d :: ds) (v :: vs) (F ++ G)
end

/-- one step of the owned world -/
structure Stp (Z : Addr → Prop) (H : Hp) (F : List Addr) (Z' : Addr → Prop) (H' : Hp) (F' : List Addr) : Prop where
  z1 : ∀ a, Z a → Z' a
  z2 : ∀ a, Z' a → Z a ∨ a ∈ F ∨ Nw H a
  fr : ∀ a o, H a = some o → a ∉ F → NTb o → H' a = some o
  tb : LamX.Tabs LamT.tk H → LamX.Tabs LamT.tk H'
  th : ∀ a o, H a = some o → NTb o → ∃ o', H' a = some o' ∧ NTb o'
  f2 : ∀ a ∈ F', a ∈ F ∨ Nw H a
  tu : ∀ a xs, Rd H a (.tup xs) → Rd H' a (.tup xs)
  fl : ∀ a (u : HO), Z a → NTb u → H a = some u → H' a = some u
  ft : ∀ a o xs, H a = some (.frz o (.tup xs)) → H' a = some (.frz o (.tup xs))
/-- what keeps a representation -/
structure Kp (Z : Addr → Prop) (H : Hp) (Z' : Addr → Prop) (H' : Hp) : Prop where
  z1 : ∀ a, Z a → Z' a
  tu : ∀ a xs, Rd H a (.tup xs) → Rd H' a (.tup xs)
  fl : ∀ a (u : HO), Z a → NTb u → H a = some u → H' a = some u
  ft : ∀ a o xs, H a = some (.frz o (.tup xs)) → H' a = some (.frz o (.tup xs))
theorem Kp.rdl {Z : Addr → Prop} {H : Hp} {Z' : Addr → Prop} {H' : Hp} (k : Kp Z H Z' H') {a : Addr} {vs : List V} (z : Z a) (r : Rd H a (.lst vs)) : Rd H' a (.lst vs) :=
  r.elim (fun e => .inl (k.fl _ _ z ntb_lst e)) fun ⟨o, e⟩ => .inr ⟨o, k.fl _ _ z (fun _ q => nomatch q) e⟩
theorem Stp.kp {Z : Addr → Prop} {H : Hp} {F : List Addr} {Z' : Addr → Prop} {H' : Hp} {F' : List Addr} (s : Stp Z H F Z' H' F') : Kp Z H Z' H' := ⟨s.z1, s.tu, s.fl, s.ft⟩

section
variable {K : PySem.W.Frag} {Z Z1 Z2 Z' : Addr → Prop} {H H1 H2 H' : Hp} {F F1 F2 F' G G' R : List Addr}
theorem none_back (th : ∀ a o, H a = some o → NTb o → ∃ o', H' a = some o' ∧ NTb o') {a : Addr} (h : Nw H' a) : Nw H a := fun o e n => by
  obtain ⟨o', e', n'⟩ := th a o e n
  exact h o' e' n'
theorem Stp.refl : Stp Z H F Z H F :=
  ⟨fun _ h => h, fun _ h => .inl h, fun _ _ h _ _ => h, fun h => h, fun _ o h n => ⟨o, h, n⟩, fun _ h => .inl h, fun _ _ h => h, fun _ _ _ _ h => h, fun _ _ _ h => h⟩
theorem Stp.trans (a : Stp Z H F Z1 H1 F1) (b : Stp Z1 H1 F1 Z2 H2 F2) : Stp Z H F Z2 H2 F2 where
  z1 := fun x h => b.z1 x (a.z1 x h)
  z2 := fun x h => by
    rcases b.z2 x h with h | h | h
    · exact a.z2 x h
    · exact .inr (a.f2 x h)
    · exact .inr (.inr (none_back a.th h))
  fr := fun x o h hn ht => b.fr x o (a.fr x o h hn ht) (fun h1 => by
    rcases a.f2 x h1 with q | q
    · exact hn q
    · exact q _ h ht) ht
  tb := fun h => b.tb (a.tb h)
  th := fun x o h n => by
    obtain ⟨o1, h1, n1⟩ := a.th x o h n
    exact b.th x o1 h1 n1
  f2 := fun x h => by
    rcases b.f2 x h with h | h
    · exact a.f2 x h
    · exact .inr (none_back a.th h)
  tu := fun x xs h => b.tu x xs (a.tu x xs h)
  fl := fun x xs z n h => b.fl x xs (a.z1 x z) n (a.fl x xs z n h)
  ft := fun x o xs h => b.ft x o xs (a.ft x o xs h)
theorem Stp.sub (a : Stp Z H F Z1 H1 F1) (h : ∀ x ∈ F2, x ∈ F1) : Stp Z H F Z1 H1 F2 := ⟨a.z1, a.z2, a.fr, a.tb, a.th, fun x hx => a.f2 x (h x hx), a.tu, a.fl, a.ft⟩
theorem Stp.sup (a : Stp Z H F Z1 H1 F1) (h : ∀ x ∈ F, x ∈ F2) : Stp Z H F2 Z1 H1 F1 :=
  ⟨a.z1, fun x hx => (a.z2 x hx).imp_right (fun z => z.imp_left (h x)), fun x o e hn ht => a.fr x o e (fun q => hn (h x q)) ht, a.tb, a.th, fun x hx => (a.f2 x hx).imp_left (h x), a.tu, a.fl, a.ft⟩
/-- more that is owned and stays -/
theorem Stp.more (a : Stp Z H F Z1 H1 F1) (hF : ∀ x ∈ F, x ∈ F2) (h : ∀ x ∈ F', x ∈ F1 ∨ x ∈ F2) : Stp Z H F2 Z1 H1 F' :=
  ⟨a.z1, fun x hx => (a.z2 x hx).imp_right (fun z => z.imp_left (hF x)), fun x o e hn ht => a.fr x o e (fun q => hn (hF x q)) ht, a.tb, a.th, fun x hx => by
    rcases h x hx with q | q
    · exact (a.f2 x q).imp_left (hF x)
    · exact .inl q, a.tu, a.fl, a.ft⟩

mutual
theorem Rep.mem : ∀ {d : D} {v : V} {F : List Addr}, Rep K Z H d v F → ∀ a ∈ F, ∃ o, H a = some o ∧ NTb o
  | _, _, _, .non, a, h => nomatch h
  | _, _, _, .bl _, a, h => nomatch h
  | _, _, _, .int _, a, h => nomatch h
  | _, _, _, .str _, a, h => nomatch h
  | _, _, _, .tup _ r, a, h => Reps.mem r a h
  | _, _, _, .pt _ _ r, a, h => Reps.mem r a h
  | _, _, _, .lst e r, a, h => by
    rcases List.mem_cons.mp h with q | q
    · exact ⟨_, by rw [q]; exact e, ntb_lst⟩
    · exact Reps.mem r a q
  | _, _, _, .fz _ r, a, h => nomatch h
  | _, _, _, .fd _ r, a, h => nomatch h
  | _, _, _, .dic e _ r, a, h => by
    rcases List.mem_cons.mp h with q | q
    · exact ⟨_, by rw [q]; exact e, ntb_dK⟩
    · exact Reps.mem r a q
  | _, _, _, .obj e _ r, a, h => by
    rcases List.mem_cons.mp h with q | q
    · exact ⟨_, by rw [q]; exact e, ntb_ins⟩
    · exact Reps.mem r a q
  | _, _, _, .op _, a, h => nomatch h
  | _, _, _, .exc e, a, h => ⟨_, (List.mem_singleton.mp h) ▸ e, ntb_ext⟩
  | _, _, _, .exd e f, a, h => by
    rcases List.mem_cons.mp h with q | q
    · exact ⟨_, by rw [q]; exact e, ntb_ext⟩
    · exact ⟨_, by rw [List.mem_singleton.mp q]; exact f, ntb_xd⟩
  | _, _, _, .ow e r, a, h => by
    rcases List.mem_cons.mp h with q | q
    · exact ⟨_, by rw [q]; exact e, ntb_lst⟩
    · exact Reps.mem r a q
  | _, _, _, .fw _ _ _, a, h => nomatch h
  | _, _, _, .fo _ _ _ _, a, h => nomatch h
theorem Reps.mem : ∀ {ds : List D} {vs : List V} {F : List Addr}, Reps K Z H ds vs F → ∀ a ∈ F, ∃ o, H a = some o ∧ NTb o
  | _, _, _, .nil, a, h => nomatch h
  | _, _, _, .cons r rs, a, h => by
    rcases List.mem_append.mp h with q | q
    · exact Rep.mem r a q
    · exact Reps.mem rs a q
end


theorem SqT.kp {a : Addr} {vs : List V} (tu : ∀ a xs, Rd H a (.tup xs) → Rd H' a (.tup xs)) (h : SqT K H a vs) : SqT K H' a vs := by
  rcases h with h | h
  · exact .inl (tu _ _ h)
  · exact .inr h

mutual
theorem Rep.kp (kk : Kp Z H Z' H') :
    ∀ {d : D} {v : V} {F : List Addr}, Rep K Z H d v F → (∀ a ∈ F, ∀ o, NTb o → H a = some o → H' a = some o) → Rep K Z' H' d v F
  | _, _, _, .non, _ => .non
  | _, _, _, .bl b, _ => .bl b
  | _, _, _, .int i, _ => .int i
  | _, _, _, .str x, _ => .str x
  | _, _, _, .tup e r, h => .tup (SqT.kp kk.tu e) (Reps.kp kk r h)
  | _, _, _, .pt e d r, h => .pt (kk.ft _ _ _ e) d (Reps.kp kk r h)
  | _, _, _, .lst e r, h => .lst (h _ List.mem_cons_self _ ntb_lst e) (Reps.kp kk r fun a ha => h a (List.mem_cons_of_mem _ ha))
  | _, _, _, .fz e r, h => .fz (e.imp_left fun q => ⟨kk.z1 _ q.1, kk.rdl q.1 q.2⟩) (Reps.kp kk r fun a ha => nomatch ha)
  | _, _, _, .fd e r, h => .fd ⟨kk.z1 _ e.1, kk.fl _ _ e.1 ntb_dK e.2.1, e.2.2⟩ (Reps.kp kk r fun a ha => nomatch ha)
  | _, _, _, .dic e l r, h => .dic (h _ List.mem_cons_self _ ntb_dK e) l (Reps.kp kk r fun a ha => h a (List.mem_cons_of_mem _ ha))
  | _, _, _, .obj e l r, h => .obj (h _ List.mem_cons_self _ ntb_ins e) l (Reps.kp kk r fun a ha => h a (List.mem_cons_of_mem _ ha))
  | _, _, _, .op v, _ => .op v
  | _, _, _, .exc e, h => .exc (h _ List.mem_cons_self _ ntb_ext e)
  | _, _, _, .exd e f, h => .exd (h _ List.mem_cons_self _ ntb_ext e) (h _ (List.mem_cons_of_mem _ List.mem_cons_self) _ ntb_xd f)
  | _, _, _, .ow e r, h => .ow (h _ List.mem_cons_self _ ntb_lst e) (Reps.kp kk r fun a ha => h a (List.mem_cons_of_mem _ ha))
  | _, _, _, .fw z e n, _ => .fw (kk.z1 _ z) (kk.fl _ _ z n e) n
  | _, _, _, .fo z e l r, _ => .fo (kk.z1 _ z) (kk.fl _ _ z ntb_ins e) l (Reps.kp kk r fun a ha => nomatch ha)
theorem Reps.kp (kk : Kp Z H Z' H') :
    ∀ {ds : List D} {vs : List V} {F : List Addr}, Reps K Z H ds vs F → (∀ a ∈ F, ∀ o, NTb o → H a = some o → H' a = some o) → Reps K Z' H' ds vs F
  | _, _, _, .nil, _ => .nil
  | _, _, _, .cons r rs, h => .cons (Rep.kp kk r fun a ha => h a (List.mem_append_left _ ha)) (Reps.kp kk rs fun a ha => h a (List.mem_append_right _ ha))
end
theorem Rep.step {d : D} {v : V} (s : Stp Z H F Z' H' F') (r : Rep K Z H d v G) (h : ∀ a ∈ G, a ∉ F) : Rep K Z' H' d v G := r.kp s.kp fun a ha o nt e => s.fr a o e (h a ha) nt
theorem Reps.step {ds : List D} {vs : List V} (s : Stp Z H F Z' H' F') (r : Reps K Z H ds vs G) (h : ∀ a ∈ G, a ∉ F) : Reps K Z' H' ds vs G := r.kp s.kp fun a ha o nt e => s.fr a o e (h a ha) nt

/-! ### the slots -/
abbrev EnvT := List (Option D)
inductive EnvR (K : PySem.W.Frag) (Z : Addr → Prop) (H : Hp) : EnvT → Sl → List Addr → Prop
  | nil : EnvR K Z H [] [] []
  | no {E : EnvT} {o : Option V} {σ : Sl} {F : List Addr} : EnvR K Z H E σ F → EnvR K Z H (none :: E) (o :: σ) F
  | so {E : EnvT} {d : D} {v : V} {σ : Sl} {F G : List Addr} : Rep K Z H d v G → EnvR K Z H E σ F → EnvR K Z H (some d :: E) (some v :: σ) (G ++ F)

theorem EnvR.kp (kk : Kp Z H Z' H') :
    ∀ {E : EnvT} {σ : Sl} {F : List Addr}, EnvR K Z H E σ F → (∀ a ∈ F, ∀ o, NTb o → H a = some o → H' a = some o) → EnvR K Z' H' E σ F
  | _, _, _, .nil, _ => .nil
  | _, _, _, .no r, h => .no (EnvR.kp kk r h)
  | _, _, _, .so r rs, h => .so (r.kp kk fun a ha => h a (List.mem_append_left _ ha)) (EnvR.kp kk rs fun a ha => h a (List.mem_append_right _ ha))
theorem EnvR.step {E : EnvT} {σ : Sl} (s : Stp Z H F Z' H' F') (r : EnvR K Z H E σ G) (h : ∀ a ∈ G, a ∉ F) : EnvR K Z' H' E σ G := r.kp s.kp fun a ha o nt e => s.fr a o e (h a ha) nt
theorem EnvR.mem : ∀ {E : EnvT} {σ : Sl} {F : List Addr}, EnvR K Z H E σ F → ∀ a ∈ F, ∃ o, H a = Option.some o ∧ NTb o
  | _, _, _, .nil, a, h => nomatch h
  | _, _, _, .no r, a, h => EnvR.mem r a h
  | _, _, _, .so r rs, a, h => by
    rcases List.mem_append.mp h with q | q
    · exact Rep.mem r a q
    · exact EnvR.mem rs a q
theorem EnvR.len : ∀ {E : EnvT} {σ : Sl} {F : List Addr}, EnvR K Z H E σ F → E.length = σ.length
  | _, _, _, .nil => rfl
  | _, _, _, .no r => by rw [List.length_cons, List.length_cons, EnvR.len r]
  | _, _, _, .so _ r => by rw [List.length_cons, List.length_cons, EnvR.len r]
/-- a slot's tree, apart from the others -/
theorem EnvR.get : ∀ {E : EnvT} {σ : Sl} {F : List Addr} {i : Nat} {d : D}, EnvR K Z H E σ F → E[i]? = some (some d) →
    ∃ v G R, σ[i]? = some (some v) ∧ Rep K Z H d v G ∧ EnvR K Z H (E.set i none) σ R ∧ F.Perm (G ++ R)
  | _, _, _, _, _, .nil, e => by simp at e
  | _, _, _, 0, _, .no r, e => by simp at e
  | _, _, _, i + 1, _, .no r, e => by
    obtain ⟨v, G, R, h1, h2, h3, h4⟩ := EnvR.get r (by simpa using e)
    exact ⟨v, G, R, by simpa using h1, h2, by simpa using EnvR.no h3, h4⟩
  | _, _, _, 0, _, .so (v := v) (F := F') (G := G') r rs, e => by
    have e' := Option.some.inj (Option.some.inj (by simpa using e))
    subst e'
    exact ⟨v, G', F', rfl, r, .no rs, List.Perm.refl _⟩
  | _, _, _, i + 1, _, .so (v := w) (F := F') (G := G') r rs, e => by
    obtain ⟨v, G, R, h1, h2, h3, h4⟩ := EnvR.get rs (by simpa using e)
    refine ⟨v, G, G' ++ R, by simpa using h1, h2, by simpa using EnvR.so r h3, ?_⟩
    have p1 : (G' ++ F').Perm (G' ++ (G ++ R)) := List.Perm.append_left _ h4
    refine p1.trans ?_
    rw [← List.append_assoc, ← List.append_assoc]
    exact List.Perm.append_right _ List.perm_append_comm
/-- an empty slot filled with what stands there -/
theorem EnvR.put : ∀ {E : EnvT} {σ : Sl} {R : List Addr} {i : Nat} {d : D} {v : V} {G : List Addr}, EnvR K Z H E σ R → E[i]? = some none → σ[i]? = some (some v) → Rep K Z H d v G →
    ∃ F, EnvR K Z H (E.set i (some d)) σ F ∧ F.Perm (G ++ R)
  | _, _, _, _, _, _, _, .nil, e, _, _ => by simp at e
  | _, _, _, 0, _, _, _, .no (o := o) r, e, hv, rp => by
    have e' : o = _ := Option.some.inj (by simpa using hv)
    subst e'
    exact ⟨_, .so rp r, List.Perm.refl _⟩
  | _, _, _, i + 1, _, _, _, .no r, e, hv, rp => by
    obtain ⟨F, h1, h2⟩ := EnvR.put r (by simpa using e) (by simpa using hv) rp
    exact ⟨F, by simpa using EnvR.no h1, h2⟩
  | _, _, _, 0, _, _, _, .so r rs, e, _, _ => by simp at e
  | _, _, _, i + 1, _, _, G, .so (F := F') (G := G') r rs, e, hv, rp => by
    obtain ⟨F, h1, h2⟩ := EnvR.put rs (by simpa using e) (by simpa using hv) rp
    refine ⟨G' ++ F, by simpa using EnvR.so r h1, ?_⟩
    have p1 : (G' ++ F).Perm (G' ++ (G ++ F')) := List.Perm.append_left _ h2
    refine p1.trans ?_
    rw [← List.append_assoc, ← List.append_assoc]
    exact List.Perm.append_right _ List.perm_append_comm
/-- a slot dropped -/
theorem EnvR.drop : ∀ {E : EnvT} {σ : Sl} {F : List Addr} (i : Nat) (o : Option V), EnvR K Z H E σ F → ∃ R, EnvR K Z H (E.set i none) (σ.set i o) R ∧ R.Sublist F
  | _, _, _, _, _, .nil => ⟨_, .nil, List.Sublist.refl _⟩
  | _, _, _, 0, o, .no r => ⟨_, .no r, List.Sublist.refl _⟩
  | _, _, _, i + 1, o, .no r => by
    obtain ⟨R, h1, h2⟩ := EnvR.drop i o r
    exact ⟨R, by simpa using EnvR.no h1, h2⟩
  | _, _, _, 0, o, .so r rs => ⟨_, .no rs, List.sublist_append_right _ _⟩
  | _, _, _, i + 1, o, .so (G := G) r rs => by
    obtain ⟨R, h1, h2⟩ := EnvR.drop i o rs
    exact ⟨_, by simpa using EnvR.so r h1, List.Sublist.append_left h2 _⟩
end

/-- what is known stands, and the tables -/
structure Zt (K : PySem.W.Frag) (Z : Addr → Prop) (H : Hp) : Prop where
  th : ∀ a, Z a → ∃ o, H a = some o ∧ NTb o
  tb : LamX.Tabs LamT.tk H
theorem Zt.stp {K : PySem.W.Frag} {Z : Addr → Prop} {H H' : Hp} {F F' : List Addr} (z : Zt K Z H) (s : Stp Z H F Z H' F') : Zt K Z H' :=
  ⟨fun a h => let ⟨o, e, n⟩ := z.th a h; s.th a o e n, s.tb z.tb⟩
structure EnvS (K : PySem.W.Frag) (Z : Addr → Prop) (H : Hp) (E : EnvT) (σ : Sl) (F : List Addr) : Prop where
  r : EnvR K Z H E σ F
  nd : F.Nodup
  nz : ∀ a ∈ F, ¬ Z a
  zt : Zt K Z H

end DL

namespace DL
open PySem PySem.Spec L2
variable [LamT]

/-! ### wished-for ends of syntax, without a reading -/
section
variable (X : Cx)
def wpE (e : Expr) (σ : Sl) (H : Hp) (Q : VK) : Prop := ∀ (pins : List (Addr × Obj)) (s : Shared), Inv X pins σ H s → wpAny (model X.prog X.w) X.A (eval e X.env) (EP X pins σ Q) X.xe s
def wpT (e : Expr) (σ : Sl) (H : Hp) (Q : Bool → Hp → Prop) : Prop := ∀ (pins : List (Addr × Obj)) (s : Shared), Inv X pins σ H s → wpAny (model X.prog X.w) X.A (isTrue e X.env (eval e X.env)) (TP X pins σ Q) X.xe s
def wpW (e : Expr) (σ : Sl) (H : Hp) (Q : Bool → Hp → Prop) : Prop := ∀ (whole : Sem Value) (pins : List (Addr × Obj)) (s : Shared), Inv X pins σ H s → wpAny (model X.prog X.w) X.A (isTrue e X.env whole) (TP X pins σ Q) X.xe s
def wpA (es : List Expr) (σ : Sl) (H : Hp) (Q : List V → Hp → Prop) : Prop := ∀ (pos : Pos) (pins : List (Addr × Obj)) (s : Shared), Inv X pins σ H s → wpAny (model X.prog X.w) X.A (spliced (backTo pos (starEach es X.env))) (AP X pins σ Q) X.xe s
def wpS (st : Stmt) (D : Ends) (σ : Sl) (H : Hp) : Prop := ∀ (pins : List (Addr × Obj)) (s : Shared), Inv X pins σ H s → wpAny (model X.prog X.w) X.A (exec st X.env) (SP X pins D) X.xe s
def wpSs (st : List Stmt) (D : Ends) (σ : Sl) (H : Hp) : Prop := ∀ (pins : List (Addr × Obj)) (s : Shared), Inv X pins σ H s → wpAny (model X.prog X.w) X.A (execs st X.env) (SP X pins D) X.xe s
def wpG (tg : Expr) (v : V) (σ : Sl) (H : Hp) (Q : Sl → Hp → Prop) : Prop := ∀ (pins : List (Addr × Obj)) (s : Shared) (u : Value), Inv X pins σ H s → RelV v u → wpAny (model X.prog X.w) X.A (assign tg X.env u) (fun _ s' => ∃ σ' H', Inv X pins σ' H' s' ∧ Q σ' H') X.xe s
end
section
variable {X : Cx} {e : Expr} {es : List Expr} {st : Stmt} {sts : List Stmt} {σ : Sl} {H : Hp}
theorem pe_w : PE X e (wpE X e) := ⟨fun pins s σ H Q I h => h pins s I⟩
theorem pt_w : PT X e (wpT X e) := ⟨fun pins s σ H Q I h => h pins s I⟩
theorem pw_w : PW X e (wpW X e) := ⟨fun w pins s σ H Q I h => h w pins s I⟩
theorem pa_w : PA X es (wpA X es) := ⟨fun pos pins s σ H Q I h => h pos pins s I⟩
theorem ps_w : PS X st (wpS X st) := ⟨fun pins s σ H D I h => h pins s I⟩
theorem pss_w : PSs X sts (wpSs X sts) := ⟨fun pins s σ H D I h => h pins s I⟩
theorem pg_w : PG X e (wpG X e) := ⟨fun pins s σ H v u Q I r h => h pins s u I r⟩
theorem wpE_by {t : TE} {Q : VK} (h : PE X e t) (q : t σ H Q) : wpE X e σ H Q := fun pins s I => h.run pins s σ H Q I q
theorem wpT_by {t : TT} {Q : Bool → Hp → Prop} (h : PT X e t) (q : t σ H Q) : wpT X e σ H Q := fun pins s I => h.run pins s σ H Q I q
theorem wpW_by {t : TT} {Q : Bool → Hp → Prop} (h : PW X e t) (q : t σ H Q) : wpW X e σ H Q := fun w pins s I => h.run w pins s σ H Q I q
theorem wpA_by {t : TA} {Q : List V → Hp → Prop} (h : PA X es t) (q : t σ H Q) : wpA X es σ H Q := fun pos pins s I => h.run pos pins s σ H Q I q
theorem wpS_by {t : TS} {D : Ends} (h : PS X st t) (q : t D σ H) : wpS X st D σ H := fun pins s I => h.run pins s σ H D I q
theorem wpSs_by {t : TS} {D : Ends} (h : PSs X sts t) (q : t D σ H) : wpSs X sts D σ H := fun pins s I => h.run pins s σ H D I q
theorem wpG_by {t : TG} {v : V} {Q : Sl → Hp → Prop} (h : PG X e t) (q : t v σ H Q) : wpG X e v σ H Q := fun pins s u I r => h.run pins s σ H v u Q I r q
end

/-! ### operands -/
inductive Opd where
  | val (d : D) | bor (i : Nat)
def Opd.get (E : EnvT) : Opd → Option D
  | .val d => some d
  | .bor i => E[i]?.join
def OpdR (K : PySem.W.Frag) (Z : Addr → Prop) (H : Hp) (σ : Sl) : Opd → V → List Addr → Prop
  | .val d, v, G => Rep K Z H d v G
  | .bor i, v, G => σ[i]? = some (some v) ∧ G = []
inductive OpdRs (K : PySem.W.Frag) (Z : Addr → Prop) (H : Hp) (σ : Sl) : List Opd → List V → List Addr → Prop
  | nil : OpdRs K Z H σ [] [] []
  | cons {o : Opd} {v : V} {G : List Addr} {os : List Opd} {vs : List V} {Gs : List Addr} : OpdR K Z H σ o v G → OpdRs K Z H σ os vs Gs → OpdRs K Z H σ (o :: os) (v :: vs) (G ++ Gs)

section
variable {K : PySem.W.Frag} {Z Z1 Z2 Z' : Addr → Prop} {H H1 H2 H' : Hp} {F F1 F2 F' G G' R : List Addr} {σ : Sl} {E E' : EnvT} {o : Opd} {os : List Opd} {v : V} {vs : List V} {d : D}
theorem OpdR.mem (r : OpdR K Z H σ o v G) : ∀ a ∈ G, ∃ u, H a = some u ∧ NTb u := by
  cases o with
  | val d => exact Rep.mem r
  | bor i => intro a h; rw [r.2] at h; cases h
theorem OpdRs.mem : ∀ {os : List Opd} {vs : List V} {G : List Addr}, OpdRs K Z H σ os vs G → ∀ a ∈ G, ∃ u, H a = some u ∧ NTb u
  | _, _, _, .nil, a, h => nomatch h
  | _, _, _, .cons r rs, a, h => by
    rcases List.mem_append.mp h with q | q
    · exact OpdR.mem r a q
    · exact OpdRs.mem rs a q
theorem OpdR.step (s : Stp Z H F Z' H' F') (r : OpdR K Z H σ o v G) (h : ∀ a ∈ G, a ∉ F) : OpdR K Z' H' σ o v G := by
  cases o with
  | val d => exact Rep.step s r h
  | bor i => exact r
theorem OpdRs.step (s : Stp Z H F Z' H' F') : ∀ {os : List Opd} {vs : List V} {G : List Addr}, OpdRs K Z H σ os vs G → (∀ a ∈ G, a ∉ F) → OpdRs K Z' H' σ os vs G
  | _, _, _, .nil, _ => .nil
  | _, _, _, .cons r rs, h => .cons (OpdR.step s r fun a ha => h a (List.mem_append_left _ ha)) (OpdRs.step s rs fun a ha => h a (List.mem_append_right _ ha))
/-- what an operand is where it is used -/
theorem OpdR.use (e : EnvS K Z H E σ F) (r : OpdR K Z H σ o v G) (g : o.get E = some d) : ∃ G', Rep K Z H d v G' ∧ ∀ a ∈ G', a ∈ G ∨ a ∈ F := by
  cases o with
  | val d' =>
    cases g
    exact ⟨G, r, fun a h => .inl h⟩
  | bor i =>
    have g' : E[i]? = some (some d) := by
      have q : E[i]?.join = some d := g
      cases h : E[i]? with
      | none => rw [h] at q; cases q
      | some x => rw [h] at q; cases x <;> cases q; rfl
    obtain ⟨w, G1, R, h1, h2, h3, h4⟩ := e.r.get g'
    rw [r.1] at h1
    cases h1
    exact ⟨G1, h2, fun a ha => .inr (h4.mem_iff.mpr (List.mem_append_left _ ha))⟩

theorem Stp.push (a : Stp Z H F Z1 H1 (G ++ F1)) (b : Stp Z1 H1 F1 Z2 H2 F2) : Stp Z H F Z2 H2 (G ++ F2) :=
  a.trans (b.more (fun x h => List.mem_append_right _ h) fun x h => (List.mem_append.mp h).elim (fun q => .inr (List.mem_append_left _ q)) .inl)
theorem Stp.apart (b : Stp Z1 H1 F1 Z2 H2 F2) (hG : ∀ a ∈ G, ∃ u, H1 a = some u ∧ NTb u) (nd : (G ++ F1).Nodup) (n2 : F2.Nodup) : (G ++ F2).Nodup ∧ ∀ a ∈ G, a ∉ F1 := by
  have h0 : ∀ a ∈ G, a ∉ F1 := fun a ha hf => (List.nodup_append.mp nd).2.2 a ha a hf rfl
  refine ⟨List.nodup_append.mpr ⟨(List.nodup_append.mp nd).1, n2, fun a ha b hb e => ?_⟩, h0⟩
  subst e
  rcases b.f2 a hb with q | q
  · exact h0 a ha q
  · obtain ⟨u, hu, nu⟩ := hG a ha
    exact q u hu nu
theorem Stp.nz (b : Stp Z1 H1 F1 Z2 H2 F2) (hG : ∀ a ∈ G, ∃ u, H1 a = some u ∧ NTb u) (h0 : ∀ a ∈ G, a ∉ F1) (hz : ∀ a ∈ G, ¬ Z1 a) : ∀ a ∈ G, ¬ Z2 a := fun a ha z => by
  rcases b.z2 a z with q | q | q
  · exact hz a ha q
  · exact h0 a ha q
  · obtain ⟨u, hu, nu⟩ := hG a ha
    exact q u hu nu
end

/-! ### the judgements -/
structure Fin (K : PySem.W.Frag) (Z : Addr → Prop) (H : Hp) (σ : Sl) (F : List Addr) (E' : EnvT) (Z' : Addr → Prop) (H' : Hp) (F' G : List Addr) : Prop where
  env : EnvS K Z' H' E' σ F'
  nd : (G ++ F').Nodup
  nz : ∀ a ∈ G, ¬ Z' a
  st : Stp Z H F Z' H' (G ++ F')
section
variable {K : PySem.W.Frag} {Z Z1 Z2 Z' : Addr → Prop} {H H1 H2 H' : Hp} {F F1 F2 F' G G1 G2 G' R : List Addr} {σ : Sl} {E E1 E2 E' : EnvT} {o : Opd} {os : List Opd} {v : V} {vs : List V} {d : D}
theorem Fin.refl (e : EnvS K Z H E σ F) : Fin K Z H σ F E Z H F [] := ⟨e, e.nd, (fun a h => nomatch h), Stp.refl⟩
theorem Fin.join (a : Fin K Z H σ F E1 Z1 H1 F1 G1) (hG : ∀ a ∈ G1, ∃ u, H1 a = some u ∧ NTb u) (b : Fin K Z1 H1 σ F1 E2 Z2 H2 F2 G2) : Fin K Z H σ F E2 Z2 H2 F2 (G1 ++ G2) := by
  obtain ⟨n1, n2⟩ := b.st.apart hG a.nd b.nd
  refine ⟨b.env, by rw [List.append_assoc]; exact n1, fun x hx => ?_, by rw [List.append_assoc]; exact a.st.push b.st⟩
  rcases List.mem_append.mp hx with q | q
  · exact b.st.nz hG n2 a.nz x q
  · exact b.nz x q
theorem Fin.off (a : Fin K Z H σ F E1 Z1 H1 F1 G1) (hG : ∀ a ∈ G1, ∃ u, H1 a = some u ∧ NTb u) (b : Fin K Z1 H1 σ F1 E2 Z2 H2 F2 G2) : ∀ x ∈ G1, x ∉ F1 := (b.st.apart hG a.nd b.nd).2
/-- temporaries forgotten -/
theorem Fin.sub (a : Fin K Z H σ F E1 Z1 H1 F1 G1) (s : G2.Sublist G1) : Fin K Z H σ F E1 Z1 H1 F1 G2 :=
  ⟨a.env, (List.Sublist.append_right s F1).nodup a.nd, fun x hx => a.nz x (s.subset hx), a.st.sub fun x hx => (List.Sublist.append_right s F1).subset hx⟩
theorem Fin.nil (a : Fin K Z H σ F E1 Z1 H1 F1 G1) : Fin K Z H σ F E1 Z1 H1 F1 [] := a.sub (List.nil_sublist _)
end

section
variable (X : Cx)
def WO (e : Expr) (E : EnvT) (k : Opd → EnvT → Prop) : Prop := ∀ (Z : Addr → Prop) (H : Hp) (σ : Sl) (F : List Addr) (Q : VK), EnvS X.K Z H E σ F →
  (∀ (o : Opd) (E' : EnvT) (Z' : Addr → Prop) (H' : Hp) (F' G : List Addr) (v : V), k o E' → Fin X.K Z H σ F E' Z' H' F' G → OpdR X.K Z' H' σ o v G → Q v H') → wpE X e σ H Q
def WE (e : Expr) (E : EnvT) (k : D → EnvT → Prop) : Prop := WO X e E fun o E' => ∃ d, o = .val d ∧ k d E'
def WA (es : List Expr) (E : EnvT) (k : List Opd → EnvT → Prop) : Prop := ∀ (Z : Addr → Prop) (H : Hp) (σ : Sl) (F : List Addr) (Q : List V → Hp → Prop), EnvS X.K Z H E σ F →
  (∀ (os : List Opd) (E' : EnvT) (Z' : Addr → Prop) (H' : Hp) (F' G : List Addr) (vs : List V), k os E' → Fin X.K Z H σ F E' Z' H' F' G → OpdRs X.K Z' H' σ os vs G → Q vs H') → wpA X es σ H Q
def WT (e : Expr) (E : EnvT) (k : Bool → EnvT → Prop) : Prop := ∀ (Z : Addr → Prop) (H : Hp) (σ : Sl) (F : List Addr) (Q : Bool → Hp → Prop), EnvS X.K Z H E σ F →
  (∀ (b : Bool) (E' : EnvT) (Z' : Addr → Prop) (H' : Hp) (F' : List Addr), k b E' → Fin X.K Z H σ F E' Z' H' F' [] → Q b H') → wpT X e σ H Q
def WW (e : Expr) (E : EnvT) (k : Bool → EnvT → Prop) : Prop := ∀ (Z : Addr → Prop) (H : Hp) (σ : Sl) (F : List Addr) (Q : Bool → Hp → Prop), EnvS X.K Z H E σ F →
  (∀ (b : Bool) (E' : EnvT) (Z' : Addr → Prop) (H' : Hp) (F' : List Addr), k b E' → Fin X.K Z H σ F E' Z' H' F' [] → Q b H') → wpW X e σ H Q
end
/-- what is wanted behind a statement, over trees -/
structure KS where
  nx : EnvT → Prop
  rt : D → EnvT → Prop
  bk : EnvT → Prop := fun _ => False
  ct : EnvT → Prop := fun _ => False
/-- the slots of n hold what they held -/
def Pin (n : List Nat) (σ σ' : Sl) : Prop := ∀ i ∈ n, σ'[i]? = σ[i]?
theorem Pin.refl {n : List Nat} {σ : Sl} : Pin n σ σ := fun _ _ => rfl
theorem Pin.trans {n : List Nat} {σ σ1 σ2 : Sl} (a : Pin n σ σ1) (b : Pin n σ1 σ2) : Pin n σ σ2 := fun i h => (b i h).trans (a i h)
theorem Pin.set {n : List Nat} {i : Nat} {σ : Sl} {o : Option V} (h : i ∉ n) : Pin n σ (σ.set i o) := fun j hj => by
  rw [List.getElem?_set_ne]
  exact fun q => h (by rw [q]; exact hj)
theorem Pin.sub {n n' : List Nat} {σ σ1 : Sl} (a : Pin n σ σ1) (h : ∀ i ∈ n', i ∈ n) : Pin n' σ σ1 := fun i hi => a i (h i hi)
/-- an end of a statement -/
structure FinS (K : PySem.W.Frag) (n : List Nat) (Z : Addr → Prop) (H : Hp) (σ : Sl) (F : List Addr) (E' : EnvT) (Z' : Addr → Prop) (H' : Hp) (σ' : Sl) (F' G : List Addr) : Prop where
  env : EnvS K Z' H' E' σ' F'
  nd : (G ++ F').Nodup
  nz : ∀ a ∈ G, ¬ Z' a
  st : Stp Z H F Z' H' (G ++ F')
  pin : Pin n σ σ'
structure EndsOk (K : PySem.W.Frag) (n : List Nat) (Z : Addr → Prop) (H : Hp) (σ : Sl) (F : List Addr) (k : KS) (D : Ends) : Prop where
  nx : ∀ E' Z' H' σ' F', k.nx E' → FinS K n Z H σ F E' Z' H' σ' F' [] → D.nx σ' H'
  rt : ∀ d v E' Z' H' σ' F' G, k.rt d E' → FinS K n Z H σ F E' Z' H' σ' F' G → Rep K Z' H' d v G → D.rt v H'
  bk : ∀ E' Z' H' σ' F', k.bk E' → FinS K n Z H σ F E' Z' H' σ' F' [] → D.bk σ' H'
  ct : ∀ E' Z' H' σ' F', k.ct E' → FinS K n Z H σ F E' Z' H' σ' F' [] → D.ct σ' H'
def WS (X : Cx) (n : List Nat) (st : Stmt) (E : EnvT) (k : KS) : Prop := ∀ (Z : Addr → Prop) (H : Hp) (σ : Sl) (F : List Addr) (D : Ends), EnvS X.K Z H E σ F → EndsOk X.K n Z H σ F k D → wpS X st D σ H
def WSs (X : Cx) (n : List Nat) (sts : List Stmt) (E : EnvT) (k : KS) : Prop := ∀ (Z : Addr → Prop) (H : Hp) (σ : Sl) (F : List Addr) (D : Ends), EnvS X.K Z H E σ F → EndsOk X.K n Z H σ F k D → wpSs X sts D σ H
/-- a target of an assignment: the value's tree d -/
def WG (X : Cx) (n : List Nat) (tg : Expr) (d : D) (E : EnvT) (k : EnvT → Prop) : Prop := ∀ (Z : Addr → Prop) (H : Hp) (σ : Sl) (F G : List Addr) (v : V) (Q : Sl → Hp → Prop), EnvS X.K Z H E σ F → Rep X.K Z H d v G → (G ++ F).Nodup → (∀ a ∈ G, ¬ Z a) →
  (∀ (E' : EnvT) (Z' : Addr → Prop) (H' : Hp) (σ' : Sl) (F' : List Addr), k E' → FinS X.K n Z H σ (G ++ F) E' Z' H' σ' F' [] → Q σ' H') → wpG X tg v σ H Q

section
variable {K : PySem.W.Frag} {n : List Nat} {Z Z1 Z2 Z' : Addr → Prop} {H H1 H2 H' : Hp} {F F1 F2 F' G G1 G2 G' R : List Addr} {σ σ1 σ2 : Sl} {E E1 E2 E' : EnvT} {d : D} {v : V}
theorem Fin.toS (a : Fin K Z H σ F E1 Z1 H1 F1 G1) : FinS K n Z H σ F E1 Z1 H1 σ F1 G1 := ⟨a.env, a.nd, a.nz, a.st, Pin.refl⟩
theorem FinS.trans (a : FinS K n Z H σ F E1 Z1 H1 σ1 F1 []) (b : FinS K n Z1 H1 σ1 F1 E2 Z2 H2 σ2 F2 G2) : FinS K n Z H σ F E2 Z2 H2 σ2 F2 G2 :=
  ⟨b.env, b.nd, b.nz, a.st.trans b.st, a.pin.trans b.pin⟩
/-- behind a beginning the ends are still right -/
theorem EndsOk.after {k : KS} {D : Ends} (e : EndsOk K n Z H σ F k D) (a : FinS K n Z H σ F E1 Z1 H1 σ1 F1 []) : EndsOk K n Z1 H1 σ1 F1 k D :=
  ⟨fun E' Z' H' σ' F' h f => e.nx E' Z' H' σ' F' h (a.trans f), fun d v E' Z' H' σ' F' G h f r => e.rt d v E' Z' H' σ' F' G h (a.trans f) r, fun E' Z' H' σ' F' h f => e.bk E' Z' H' σ' F' h (a.trans f), fun E' Z' H' σ' F' h f => e.ct E' Z' H' σ' F' h (a.trans f)⟩
end

/-! ### arguments, blocks -/
section
variable {X : Cx} {n : List Nat} {e : Expr} {es : List Expr} {st : Stmt} {sts : List Stmt} {E : EnvT} {k : KS} {pos : Pos}
theorem wa_nil {k : List Opd → EnvT → Prop} (h : k [] E) : WA X [] E k := fun Z H σ F Q he hk => wpA_by pa_nil (hk [] E Z H F [] [] h (Fin.refl he) .nil)
theorem wa_cons {k : List Opd → EnvT → Prop} (h : WO X e E fun o E1 => WA X es E1 fun os E2 => k (o :: os) E2) (hs : starEach (e :: es) X.env = (false, eval e X.env) :: starEach es X.env := by rfl) : WA X (e :: es) E k := by
  intro Z H σ F Q he hk
  refine wpA_by (pa_cons pe_w pa_w hs) (h Z H σ F _ he fun o E1 Z1 H1 F1 G1 v k1 f1 r1 => ?_)
  refine k1 Z1 H1 σ F1 _ f1.env fun os E2 Z2 H2 F2 G2 vs k2 f2 r2 => ?_
  exact hk (o :: os) E2 Z2 H2 F2 (G1 ++ G2) (v :: vs) k2 (f1.join r1.mem f2) (.cons (r1.step f2.st (f1.off r1.mem f2)) r2)
theorem WO.mono {k k' : Opd → EnvT → Prop} (h : WO X e E k) (m : ∀ o E', k o E' → k' o E') : WO X e E k' := fun Z H σ F Q he hk => h Z H σ F Q he fun o E' Z' H' F' G v q => hk o E' Z' H' F' G v (m o E' q)
theorem we_of {k : D → EnvT → Prop} (h : WO X e E fun o E' => ∃ d, o = .val d ∧ k d E') : WE X e E k := h
theorem wo_of {k : Opd → EnvT → Prop} (h : WE X e E fun d E' => k (.val d) E') : WO X e E k := WO.mono h fun o E' ⟨d, e, q⟩ => by rw [e]; exact q
theorem wss_nil (h : k.nx E) : WSs X n [] E k := fun Z H σ F D he hk => wpSs_by pss_nil (hk.nx E Z H σ F h (Fin.refl he).toS)
theorem wss_cons (h : WS X n st E { k with nx := fun E' => WSs X n sts E' k }) : WSs X n (st :: sts) E k := by
  intro Z H σ F D he hk
  refine wpSs_by (pss_cons ps_w pss_w) (h Z H σ F _ he ⟨fun E' Z' H' σ' F' q f => ?_, hk.rt, hk.bk, hk.ct⟩)
  exact q Z' H' σ' F' D f.env (hk.after f)
theorem wss_one (h : WS X n st E k) : WSs X n [st] E k := fun Z H σ F D he hk => wpSs_by (pss_one ps_w) (h Z H σ F D he hk)
/-- with a word between -/
theorem wss_cut (M : EnvT → Prop) (h : WS X n st E { k with nx := M }) (h2 : ∀ E', M E' → WSs X n sts E' k) : WSs X n (st :: sts) E k := by
  intro Z H σ F D he hk
  refine wpSs_by (pss_cons ps_w pss_w) (h Z H σ F _ he ⟨fun E' Z' H' σ' F' q f => ?_, hk.rt, hk.bk, hk.ct⟩)
  exact h2 E' q Z' H' σ' F' D f.env (hk.after f)
theorem WS.mono {k k' : KS} (h : WS X n st E k) (h1 : ∀ E', k.nx E' → k'.nx E') (h2 : ∀ d E', k.rt d E' → k'.rt d E') (h3 : ∀ E', k.bk E' → k'.bk E') (h4 : ∀ E', k.ct E' → k'.ct E') : WS X n st E k' :=
  fun Z H σ F D he hk => h Z H σ F D he ⟨fun E' Z' H' σ' F' q f => hk.nx E' Z' H' σ' F' (h1 E' q) f, fun d v E' Z' H' σ' F' G q f r => hk.rt d v E' Z' H' σ' F' G (h2 d E' q) f r, fun E' Z' H' σ' F' q f => hk.bk E' Z' H' σ' F' (h3 E' q) f, fun E' Z' H' σ' F' q f => hk.ct E' Z' H' σ' F' (h4 E' q) f⟩
theorem ws_pass (h : k.nx E) : WS X n (.Pass pos) E k := fun Z H σ F D he hk => wpS_by ps_pass (hk.nx E Z H σ F h (Fin.refl he).toS)
theorem ws_if {c : Expr} {a b : List Stmt} (h : WT X c E fun t E1 => (t = true → WSs X n a E1 k) ∧ (t = false → WSs X n b E1 k)) : WS X n (.If c a b pos) E k := by
  intro Z H σ F D he hk
  refine wpS_by (ps_if pt_w pss_w pss_w) (h Z H σ F _ he fun t E1 Z1 H1 F1 q f => ?_)
  cases t with
  | true => exact q.1 rfl Z1 H1 σ F1 D f.env (hk.after f.toS)
  | false => exact q.2 rfl Z1 H1 σ F1 D f.env (hk.after f.toS)
theorem ws_expr (h : WO X e E fun _ E1 => k.nx E1) (hs : swapsWith e none pos.line X.env = pure false := by rfl) : WS X n (.Expr e pos) E k := by
  intro Z H σ F D he hk
  refine wpS_by (ps_expr pe_w hs) (h Z H σ F _ he fun o E1 Z1 H1 F1 G v q f r => ?_)
  exact hk.nx E1 Z1 H1 σ F1 q f.nil.toS
theorem ws_ret (h : WE X e E fun d E1 => k.rt d E1) : WS X n (.Return (some e) pos) E k := by
  intro Z H σ F D he hk
  refine wpS_by (ps_ret pe_w) (h Z H σ F _ he fun o E1 Z1 H1 F1 G v ⟨d, eo, q⟩ f r => ?_)
  subst eo
  exact hk.rt d v E1 Z1 H1 σ F1 G q f.toS r
/-- a slot stored -/
theorem EnvS.asg {K : PySem.W.Frag} {Z : Addr → Prop} {H : Hp} {E : EnvT} {σ : Sl} {F G : List Addr} {i : Nat} {d : D} {v : V} (e : EnvS K Z H E σ F) (r : Rep K Z H d v G) (nd : (G ++ F).Nodup) (nz : ∀ a ∈ G, ¬ Z a) (hi : i < E.length) :
    ∃ F', EnvS K Z H (E.set i (some d)) (σ.set i (some v)) F' ∧ ∀ a ∈ F', a ∈ G ∨ a ∈ F := by
  have hl : σ.length = E.length := e.r.len.symm
  obtain ⟨R, h1, h2⟩ := e.r.drop i (some v)
  obtain ⟨F', h3, h4⟩ := h1.put (i := i) (d := d) (v := v) (G := G) (by simp [hi]) (by simp [hl, hi]) r
  rw [List.set_set] at h3
  have n1 : (G ++ R).Nodup := (List.Sublist.append_left h2 G).nodup nd
  have m : ∀ a ∈ F', a ∈ G ∨ a ∈ F := fun a ha => (List.mem_append.mp (h4.mem_iff.mp ha)).imp_right fun q => h2.subset q
  exact ⟨F', ⟨h3, h4.nodup_iff.mpr n1, fun a ha => (m a ha).elim (nz a) (e.nz a), e.zt⟩, m⟩
theorem wg_name {i : Nat} {x : Str} {d : D} {k : EnvT → Prop} (hN : X.N.Nodup) (hi : X.N[i]? = some x) (hx : Loc X.env.scope x) (hn : i ∉ n) (hE : i < E.length) (h : k (E.set i (some d)))
    (hf : X.fn x = true ∨ X.env.scope.names.lookup x = some .local := by first | exact .inl rfl | exact .inr rfl | assumption) : WG X n (.Name x pos) d E k := by
  intro Z H σ F G v Q he r nd nz hk
  refine wpG_by (pg_name hN hi hx hf) ?_
  obtain ⟨F', h1, h2⟩ := he.asg r nd nz hE
  exact hk _ Z H _ F' h ⟨h1, h1.nd, (fun a q => nomatch q), Stp.refl.sub fun a ha => List.mem_append.mpr (h2 a ha), Pin.set hn⟩
theorem ws_set {i : Nat} {x : Str} {pos' : Pos} (hN : X.N.Nodup) (hi : X.N[i]? = some x) (hx : Loc X.env.scope x) (hn : i ∉ n) (h : WE X e E fun d E1 => i < E1.length ∧ k.nx (E1.set i (some d))) (hs : swapsWith e (some (.Name x pos')) pos.line X.env = pure false := by rfl)
    (hf : X.fn x = true ∨ X.env.scope.names.lookup x = some .local := by first | exact .inl rfl | exact .inr rfl | assumption) : WS X n (.Assign [.Name x pos'] e pos) E k := by
  intro Z H σ F D he hk
  refine wpS_by (ps_set hN hi hx pe_w hs hf) (h Z H σ F _ he fun o E1 Z1 H1 F1 G v ⟨d, eo, hE, q⟩ f r => ?_)
  subst eo
  obtain ⟨F', h1, h2⟩ := f.env.asg r f.nd f.nz hE
  exact hk.nx _ Z1 H1 _ F' q ⟨h1, h1.nd, (fun a q => nomatch q), f.st.sub fun a ha => List.mem_append.mpr (h2 a ha), Pin.set hn⟩
/-- a target of any form -/
theorem ws_asg {tg : Expr} (h : WE X e E fun d E1 => WG X n tg d E1 k.nx) (hs : swapsWithSole [tg] e pos.line X.env = pure false := by rfl) (hw : swappedStores [tg] e X.env = pure none := by rfl)
    (h1 : (assignEach [tg] X.env).map (·.2) = [assign tg X.env] := by rfl) : WS X n (.Assign [tg] e pos) E k := by
  intro Z H σ F D he hk
  refine wpS_by (ps_asg pe_w pg_w hs hw h1) (h Z H σ F _ he fun o E1 Z1 H1 F1 G v ⟨d, eo, q⟩ f r => ?_)
  subst eo
  refine q Z1 H1 σ F1 G v _ f.env r f.nd f.nz fun E2 Z2 H2 σ2 F2 q2 f2 => ?_
  exact hk.nx E2 Z2 H2 σ2 F2 q2 ⟨f2.env, f2.nd, f2.nz, f.st.trans f2.st, f2.pin⟩
end
end DL

namespace DL
open PySem PySem.Spec L2
variable [LamT]

/-! ### trees that own nothing -/
mutual
def Imm : D → Prop
  | .non => True
  | .bl _ => True
  | .int _ => True
  | .str _ => True
  | .tup ds => Imms ds
  | .pt ds => Imms ds
  | .lst _ => False
  | .fz _ => True
  | .fd _ _ => True
  | .dic _ _ => False
  | .obj _ _ _ => False
  | .op _ => True
  | .exc _ => False
  | .exd _ _ => False
  | .ow _ _ => False
  | .fw _ => True
  | .fo _ _ _ => True
def Imms : List D → Prop
  | [] => True
  | d :: ds => Imm d ∧ Imms ds
end
theorem imms_iff : ∀ {ds : List D}, Imms ds ↔ ∀ d ∈ ds, Imm d
  | [] => by simp [Imms]
  | d :: ds => by
    have ih := imms_iff (ds := ds)
    simp [Imms, ih]
theorem imms_map {α : Type} {f : α → D} {xs : List α} (h : ∀ x ∈ xs, Imm (f x)) : Imms (xs.map f) := imms_iff.mpr fun d hd => by
  obtain ⟨x, hx, rfl⟩ := List.mem_map.mp hd
  exact h x hx
theorem imms_ints {xs : List Int} : Imms (xs.map D.int) := imms_map fun _ _ => trivial
theorem imms_app {xs ys : List D} (a : Imms xs) (b : Imms ys) : Imms (xs ++ ys) := imms_iff.mpr fun d hd => (List.mem_append.mp hd).elim (imms_iff.mp a d) (imms_iff.mp b d)
theorem imms_get {xs : List D} {i : Nat} {d : D} (a : Imms xs) (h : xs[i]? = some d) : Imm d := imms_iff.mp a d (List.mem_of_getElem? h)
section
variable {K : PySem.W.Frag} {Z Z1 Z2 Z' : Addr → Prop} {H H1 H2 H' : Hp} {F F1 F2 F' G G1 G2 G' R : List Addr} {σ : Sl} {E E1 E2 E' : EnvT} {d d1 d2 : D} {v v1 v2 : V} {ds : List D} {vs : List V}
mutual
theorem Rep.imm : ∀ {d : D} {v : V} {G : List Addr}, Rep K Z H d v G → Imm d → G = []
  | _, _, _, .non, _ => rfl
  | _, _, _, .bl _, _ => rfl
  | _, _, _, .int _, _ => rfl
  | _, _, _, .str _, _ => rfl
  | _, _, _, .tup _ r, h => Reps.imm r (by simpa [Imm] using h)
  | _, _, _, .pt _ _ r, h => Reps.imm r (by simpa [Imm] using h)
  | _, _, _, .lst _ _, h => by simp [Imm] at h
  | _, _, _, .fz _ _, _ => rfl
  | _, _, _, .fd _ _, _ => rfl
  | _, _, _, .dic _ _ _, h => by simp [Imm] at h
  | _, _, _, .obj _ _ _, h => by simp [Imm] at h
  | _, _, _, .op _, _ => rfl
  | _, _, _, .exc _, h => by simp [Imm] at h
  | _, _, _, .exd _ _, h => by simp [Imm] at h
  | _, _, _, .ow _ _, h => by simp [Imm] at h
  | _, _, _, .fw _ _ _, _ => rfl
  | _, _, _, .fo _ _ _ _, _ => rfl
theorem Reps.imm : ∀ {ds : List D} {vs : List V} {G : List Addr}, Reps K Z H ds vs G → Imms ds → G = []
  | _, _, _, .nil, _ => rfl
  | _, _, _, .cons r rs, h => by
    rw [Imms] at h
    rw [Rep.imm r h.1, Reps.imm rs h.2]
    rfl
end
theorem Reps.len : ∀ {ds : List D} {vs : List V} {G : List Addr}, Reps K Z H ds vs G → ds.length = vs.length
  | _, _, _, .nil => rfl
  | _, _, _, .cons _ r => by rw [List.length_cons, List.length_cons, Reps.len r]
theorem Reps.get : ∀ {ds : List D} {vs : List V} {G : List Addr} {i : Nat} {d : D}, Reps K Z H ds vs G → ds[i]? = some d → ∃ v G', vs[i]? = some v ∧ Rep K Z H d v G' ∧ G'.Sublist G
  | _, _, _, _, _, .nil, h => by simp at h
  | _, _, _, 0, _, .cons r rs, h => by
    have e := Option.some.inj (by simpa using h)
    subst e
    exact ⟨_, _, rfl, r, List.sublist_append_left _ _⟩
  | _, _, _, i + 1, _, .cons r rs, h => by
    obtain ⟨v, G', h1, h2, h3⟩ := Reps.get rs (by simpa using h)
    exact ⟨v, G', by simpa using h1, h2, h3.trans (List.sublist_append_right _ _)⟩
theorem Reps.app : ∀ {ds es : List D} {vs ws : List V} {G G' : List Addr}, Reps K Z H ds vs G → Reps K Z H es ws G' → Reps K Z H (ds ++ es) (vs ++ ws) (G ++ G')
  | _, _, _, _, _, _, .nil, s => s
  | _, _, _, _, _, _, .cons r rs, s => by
    rw [List.append_assoc]
    exact .cons r (Reps.app rs s)
theorem Reps.take (n : Nat) : ∀ {ds : List D} {vs : List V} {G : List Addr}, Reps K Z H ds vs G → ∃ G', Reps K Z H (ds.take n) (vs.take n) G' ∧ G'.Sublist G := by
  induction n with
  | zero => intro ds vs G r; exact ⟨[], by simpa using Reps.nil, List.nil_sublist _⟩
  | succ n ih =>
    intro ds vs G r
    cases r with
    | nil => exact ⟨[], .nil, List.Sublist.refl _⟩
    | cons r rs =>
      obtain ⟨G', h1, h2⟩ := ih rs
      exact ⟨_, .cons r h1, List.Sublist.append_left h2 _⟩
theorem Reps.drop (n : Nat) : ∀ {ds : List D} {vs : List V} {G : List Addr}, Reps K Z H ds vs G → ∃ G', Reps K Z H (ds.drop n) (vs.drop n) G' ∧ G'.Sublist G := by
  induction n with
  | zero => intro ds vs G r; exact ⟨G, r, List.Sublist.refl _⟩
  | succ n ih =>
    intro ds vs G r
    cases r with
    | nil => exact ⟨[], .nil, List.Sublist.refl _⟩
    | cons r rs =>
      obtain ⟨G', h1, h2⟩ := ih rs
      exact ⟨G', h1, h2.trans (List.sublist_append_right _ _)⟩
theorem Reps.one (r : Rep K Z H d v G) : Reps K Z H [d] [v] G := by
  have q := Reps.cons r Reps.nil
  rw [List.append_nil] at q
  exact q
/-- of items that own nothing -/
theorem Reps.nils (r : Reps K Z H ds vs G) (h : Imms ds) : Reps K Z H ds vs [] := by
  have e := r.imm h
  rw [e] at r
  exact r
theorem Rep.nils (r : Rep K Z H d v G) (h : Imm d) : Rep K Z H d v [] := by
  have e := r.imm h
  rw [e] at r
  exact r

/-! ### the heap grows -/
structure Grow (H H' : Hp) (G : List Addr) : Prop where
  gr : ∀ a o, H a = some o → H' a = some o
  gn : ∀ a ∈ G, H a = none
  gd : G.Nodup
theorem Grow.refl : Grow H H [] := ⟨fun _ _ h => h, (fun a h => nomatch h), List.nodup_nil⟩
theorem Grow.new {p : Addr} {o : HO} (h : H p = none) : Grow H (upd H p o) [p] :=
  ⟨fun a u e => by rw [upd_ne (ne_of_none e h)]; exact e, fun a ha => by rw [List.mem_singleton.mp ha]; exact h, by simp⟩
theorem Grow.new0 {p : Addr} {o : HO} (h : H p = none) : Grow H (upd H p o) [] :=
  ⟨fun a u e => by rw [upd_ne (ne_of_none e h)]; exact e, fun a ha => (nomatch ha), List.nodup_nil⟩
theorem Grow.rd (g : Grow H H' G) {a : Addr} {u : HO} (h : Rd H a u) : Rd H' a u := by
  rcases h with h | ⟨o, h⟩
  · exact .inl (g.gr _ _ h)
  · exact .inr ⟨o, g.gr _ _ h⟩
theorem Grow.st (g : Grow H H' G) : Stp Z H F Z H' (G ++ F) :=
  ⟨fun _ h => h, fun _ h => .inl h, fun a o h _ _ => g.gr a o h, fun h => h.ext g.gr, fun a o h n => ⟨o, g.gr a o h, n⟩, fun a h => (List.mem_append.mp h).elim (fun q => .inr (nw_of (g.gn a q))) .inl, fun _ _ h => g.rd h, fun _ _ _ _ h => g.gr _ _ h, fun _ _ _ h => g.gr _ _ h⟩
theorem Zt.gr (z : Zt K Z H) (g : Grow H H' G) : Zt K Z H' := z.stp (g.st (Z := Z) (F := []))
theorem Grow.trans (a : Grow H H1 G) (b : Grow H1 H2 G1) : Grow H H2 G1 := by
  refine ⟨fun x o h => b.gr x o (a.gr x o h), fun x h => ?_, b.gd⟩
  have q := b.gn x h
  cases e : H x with
  | none => rfl
  | some o =>
    rw [a.gr x o e] at q
    cases q
theorem Grow.kp (g : Grow H H' G) : Kp Z H Z H' := ⟨fun _ h => h, fun _ _ h => g.rd h, fun _ _ _ _ h => g.gr _ _ h, fun _ _ _ h => g.gr _ _ h⟩
theorem Rep.grow (g : Grow H H' G) (r : Rep K Z H d v G1) : Rep K Z H' d v G1 := r.kp g.kp fun a _ o _ e => g.gr a o e
theorem Reps.grow (g : Grow H H' G) (r : Reps K Z H ds vs G1) : Reps K Z H' ds vs G1 := r.kp g.kp fun a _ o _ e => g.gr a o e
theorem Fin.grow (a : Fin K Z H σ F E1 Z1 H1 F1 G1) (g : Grow H1 H2 G) : Fin K Z H σ F E1 Z1 H2 F1 G := by
  have b := a.nil
  have off : ∀ x ∈ G, x ∉ F1 := fun x hx hf => by
    obtain ⟨o, e, _⟩ := b.env.r.mem x hf
    rw [g.gn x hx] at e
    cases e
  refine ⟨⟨b.env.r.kp g.kp fun a _ o _ e => g.gr a o e, b.env.nd, b.env.nz, b.env.zt.gr g⟩, List.nodup_append.mpr ⟨g.gd, b.env.nd, fun x hx y hy e => off x hx (e ▸ hy)⟩, fun x hx z => ?_, ?_⟩
  · obtain ⟨o, e, _⟩ := b.env.zt.th x z
    rw [g.gn x hx] at e
    cases e
  · have s := b.st
    rw [List.nil_append] at s
    exact s.trans g.st
/-- r hands on a value of the tree d -/
def Gives (K : PySem.W.Frag) (Z : Addr → Prop) (H : Hp) (d : D) (r : VK → Prop) : Prop := ∀ Q : VK, (∀ v H' G, Rep K Z H' d v G → Grow H H' G → Q v H') → r Q
end

section
variable {X : Cx} {n : Nat} {e a b c : Expr} {es : List Expr} {E : EnvT} {k : Opd → EnvT → Prop} {pos p : Pos}
theorem wo_name {i : Nat} {x : Str} {d : D} (hN : X.N[i]? = some x) (hE : E[i]? = some (some d)) (h : k (.bor i) E) (hv : Vis X.env.scope x := by first | exact Or.inl rfl | exact Or.inr (Or.inl rfl) | exact Or.inr (Or.inr rfl))
    (hd : (x == ("__debug__" : Str)) = false := by decide) (hcd : (x == ("__classdict__" : Str)) = false := by decide) : WO X (.Name x pos) E k := by
  intro Z H σ F Q he hk
  obtain ⟨v, G, R, h1, h2, h3, h4⟩ := he.r.get hE
  exact wpE_by (pe_var hN hv hd hcd) ⟨v, h1, hk _ E Z H F [] v h (Fin.refl he) ⟨h1, rfl⟩⟩
theorem we_name {i : Nat} {x : Str} {d : D} {k : D → EnvT → Prop} (hN : X.N[i]? = some x) (hE : E[i]? = some (some d)) (hi : Imm d) (h : k d E) (hv : Vis X.env.scope x := by first | exact Or.inl rfl | exact Or.inr (Or.inl rfl) | exact Or.inr (Or.inr rfl))
    (hd : (x == ("__debug__" : Str)) = false := by decide) (hcd : (x == ("__classdict__" : Str)) = false := by decide) : WE X (.Name x pos) E k := by
  intro Z H σ F Q he hk
  obtain ⟨v, G, R, h1, h2, h3, h4⟩ := he.r.get hE
  exact wpE_by (pe_var hN hv hd hcd) ⟨v, h1, hk _ E Z H F [] v ⟨d, rfl, h⟩ (Fin.refl he) (h2.nils hi)⟩
/-- an owned value leaves its slot -/
theorem we_move {i : Nat} {x : Str} {d : D} {k : D → EnvT → Prop} (hN : X.N[i]? = some x) (hE : E[i]? = some (some d)) (h : k d (E.set i none)) (hv : Vis X.env.scope x := by first | exact Or.inl rfl | exact Or.inr (Or.inl rfl) | exact Or.inr (Or.inr rfl))
    (hd : (x == ("__debug__" : Str)) = false := by decide) (hcd : (x == ("__classdict__" : Str)) = false := by decide) : WE X (.Name x pos) E k := by
  intro Z H σ F Q he hk
  obtain ⟨v, G, R, h1, h2, h3, h4⟩ := he.r.get hE
  have nd : (G ++ R).Nodup := h4.nodup_iff.mp he.nd
  refine wpE_by (pe_var hN hv hd hcd) ⟨v, h1, hk _ (E.set i none) Z H R G v ⟨d, rfl, h⟩ ⟨⟨h3, (List.nodup_append.mp nd).2.1, fun a ha => he.nz a (h4.mem_iff.mpr (List.mem_append_right _ ha)), he.zt⟩, nd, fun a ha => he.nz a (h4.mem_iff.mpr (List.mem_append_left _ ha)), Stp.refl.sub fun a ha => h4.mem_iff.mpr ha⟩ h2⟩
theorem wo_c {e : Expr} {d : D} {v : V} (h : k (.val d) E) (hp : PE X e (tC v)) (r : ∀ Z H, Rep X.K Z H d v []) : WO X e E k := fun Z H σ F Q he hk => wpE_by hp (hk _ E Z H F [] v h (Fin.refl he) (r Z H))
theorem wo_int {i j} (h : k (.val (.int i)) E) : WO X (.Constant (.int i) j pos) E k := wo_c h pe_int fun _ _ => .int i
theorem wo_bl {i j} (h : k (.val (.bl i)) E) : WO X (.Constant (.bool i) j pos) E k := wo_c h pe_bl fun _ _ => .bl i
theorem wo_non {j} (h : k (.val .non) E) : WO X (.Constant .none j pos) E k := wo_c h pe_non fun _ _ => .non
theorem wo_str {i j} (h : k (.val (.str i)) E) : WO X (.Constant (.str i) j pos) E k := wo_c h pe_str fun _ _ => .str i
/-- a module's constant -/
theorem wo_glob {x : Str} {d : D} {v : V} {u : Value} (hg : Gl X x) (hm : X.mg x = some u) (r : RelV v u) (rd : ∀ Z H, Rep X.K Z H d v []) (h : k (.val d) E) (hd : (x == ("__debug__" : Str)) = false := by decide) : WO X (.Name x pos) E k := wo_c h (pe_glob hg hm r hd) rd
theorem wo_bltn {x : Str} {v : V} {u : Value} (hg : Gl X x) (hm : X.mg x = none) (hv : bootBuiltins x = some u) (r : RelV v u) (h : k (.val (.op v)) E) (hn : x ≠ "__name__" := by decide) (hd : (x == ("__debug__" : Str)) = false := by decide) : WO X (.Name x pos) E k :=
  wo_c h (pe_bltn hg hm hv r hn hd) fun _ _ => .op v

/-! ### operators -/
/-- what an operation on two trees must do -/
def Op2 (K : PySem.W.Frag) (r : R2) (d1 d2 d : D) : Prop := ∀ Z H v1 v2 G1 G2, Rep K Z H d1 v1 G1 → Rep K Z H d2 v2 G2 → Gives K Z H d (r v1 v2 H)
def Op1 (K : PySem.W.Frag) (r : V → Hp → VK → Prop) (d1 d : D) : Prop := ∀ Z H v1 G1, Rep K Z H d1 v1 G1 → Gives K Z H d (r v1 H)
theorem wo_two {r : R2} {f : Expr} (hp : PE X f (tOp r (wpE X a) (wpE X b)))
    (h : WO X a E fun o1 E1 => WO X b E1 fun o2 E2 => ∃ d1 d2 d, o1.get E2 = some d1 ∧ o2.get E2 = some d2 ∧ Op2 X.K r d1 d2 d ∧ k (.val d) E2) : WO X f E k := by
  intro Z H σ F Q he hk
  refine wpE_by hp (h Z H σ F _ he fun o1 E1 Z1 H1 F1 G1 v1 k1 f1 r1 => ?_)
  refine k1 Z1 H1 σ F1 _ f1.env fun o2 E2 Z2 H2 F2 G2 v2 ⟨d1, d2, d, g1, g2, op, k2⟩ f2 r2 => ?_
  have r1' := r1.step f2.st (f1.off r1.mem f2)
  obtain ⟨G3, q1, _⟩ := r1'.use f2.env g1
  obtain ⟨G4, q2, _⟩ := r2.use f2.env g2
  refine op Z2 H2 v1 v2 G3 G4 q1 q2 Q fun v H' G rv gr => ?_
  exact hk _ E2 Z2 H' F2 G v k2 ((f1.join r1.mem f2).grow gr) rv
theorem wo_bin {op : Operator} {r : R2} (ho : OpR X (binaryOp op) r)
    (h : WO X a E fun o1 E1 => WO X b E1 fun o2 E2 => ∃ d1 d2 d, o1.get E2 = some d1 ∧ o2.get E2 = some d2 ∧ Op2 X.K r d1 d2 d ∧ k (.val d) E2) : WO X (.BinOp a op b pos) E k := wo_two (pe_op ho pe_w pe_w) h
theorem wo_cmp {op : CmpOp} {r : R2} (ho : OpR X (compareOp op) r) (hm : behindInMarks op b = false)
    (h : WO X a E fun o1 E1 => WO X b E1 fun o2 E2 => ∃ d1 d2 d, o1.get E2 = some d1 ∧ o2.get E2 = some d2 ∧ Op2 X.K r d1 d2 d ∧ k (.val d) E2) : WO X (.Compare a [op] [b] pos) E k := wo_two (pe_cmpR ho pe_w pe_w hm) h
theorem wo_one {r : V → Hp → VK → Prop} {f : Expr} (hp : PE X f (tUn r (wpE X a))) (h : WO X a E fun o1 E1 => ∃ d1 d, o1.get E1 = some d1 ∧ Op1 X.K r d1 d ∧ k (.val d) E1) : WO X f E k := by
  intro Z H σ F Q he hk
  refine wpE_by hp (h Z H σ F _ he fun o1 E1 Z1 H1 F1 G1 v1 ⟨d1, d, g1, op, k1⟩ f1 r1 => ?_)
  obtain ⟨G3, q1, _⟩ := r1.use f1.env g1
  refine op Z1 H1 v1 G3 q1 Q fun v H' G rv gr => ?_
  exact hk _ E1 Z1 H' F1 G v k1 (f1.grow gr) rv
section
variable {K : PySem.W.Frag} {i j : Int}
theorem op2_I {C : Int → Int → Prop} {g : Int → Int → V} {d : D} (hc : C i j) (r : ∀ Z H, Rep K Z H d (g i j) []) : Op2 K (rI C g) (.int i) (.int j) d := by
  intro Z H v1 v2 G1 G2 r1 r2 Q q
  cases r1
  cases r2
  exact ⟨i, j, rfl, rfl, hc, q _ H [] (r Z H) Grow.refl⟩
theorem op2_I0 {g : Int → Int → V} {d : D} (r : ∀ Z H, Rep K Z H d (g i j) []) : Op2 K (rI0 g) (.int i) (.int j) d := by
  intro Z H v1 v2 G1 G2 r1 r2 Q q
  cases r1
  cases r2
  exact ⟨i, j, rfl, rfl, q _ H [] (r Z H) Grow.refl⟩
end
/-- two ints -/
abbrev Two (E : EnvT) (o1 o2 : Opd) (k : Int → Int → Prop) : Prop := ∃ i j, o1.get E = some (.int i) ∧ o2.get E = some (.int j) ∧ k i j
theorem wo_sub (h : WO X a E fun o1 E1 => WO X b E1 fun o2 E2 => Two E2 o1 o2 fun i j => k (.val (.int (i - j))) E2) : WO X (.BinOp a .Sub b pos) E k :=
  wo_bin op_sub (WO.mono h fun o1 E1 q => WO.mono q fun o2 E2 ⟨i, j, g1, g2, kk⟩ => ⟨_, _, _, g1, g2, op2_I0 fun _ _ => .int _, kk⟩)
theorem wo_mod (h : WO X a E fun o1 E1 => WO X b E1 fun o2 E2 => Two E2 o1 o2 fun i j => 0 < j ∧ k (.val (.int (i % j))) E2) : WO X (.BinOp a .Mod b pos) E k :=
  wo_bin op_mod (WO.mono h fun o1 E1 q => WO.mono q fun o2 E2 ⟨i, j, g1, g2, hc, kk⟩ => ⟨_, _, _, g1, g2, op2_I hc fun _ _ => .int _, kk⟩)
theorem wo_fdiv (h : WO X a E fun o1 E1 => WO X b E1 fun o2 E2 => Two E2 o1 o2 fun i j => CDivW i j ∧ k (.val (.int (i / j))) E2) : WO X (.BinOp a .FloorDiv b pos) E k :=
  wo_bin op_fdivW (WO.mono h fun o1 E1 q => WO.mono q fun o2 E2 ⟨i, j, g1, g2, hc, kk⟩ => ⟨_, _, _, g1, g2, op2_I hc fun _ _ => .int _, kk⟩)
theorem wo_pow (h : WO X a E fun o1 E1 => WO X b E1 fun o2 E2 => Two E2 o1 o2 fun i j => CPow i j ∧ k (.val (.int (i ^ j.toNat))) E2) : WO X (.BinOp a .Pow b pos) E k :=
  wo_bin op_pow (WO.mono h fun o1 E1 q => WO.mono q fun o2 E2 ⟨i, j, g1, g2, hc, kk⟩ => ⟨_, _, _, g1, g2, op2_I hc fun _ _ => .int _, kk⟩)
theorem wo_shl (h : WO X a E fun o1 E1 => WO X b E1 fun o2 E2 => Two E2 o1 o2 fun i j => CPow i j ∧ k (.val (.int (i * 2 ^ j.toNat))) E2) : WO X (.BinOp a .LShift b pos) E k :=
  wo_bin op_shl (WO.mono h fun o1 E1 q => WO.mono q fun o2 E2 ⟨i, j, g1, g2, hc, kk⟩ => ⟨_, _, _, g1, g2, op2_I hc fun _ _ => .int _, kk⟩)
/-- is None -/
def isNon : D → Bool
  | .non => true
  | .op v => decide (v = .non)
  | _ => false
theorem Rep.isNon {K : PySem.W.Frag} {Z : Addr → Prop} {H : Hp} {d : D} {v : V} {G : List Addr} (r : Rep K Z H d v G) : decide (v = .non) = isNon d := by
  cases r <;> first | rfl | exact decide_eq_false (fun h => nomatch h)
theorem wo_neg (h : WO X a E fun o1 E1 => ∃ i, o1.get E1 = some (.int i) ∧ k (.val (.int (-i))) E1) : WO X (.UnaryOp .USub a pos) E k :=
  wo_one (pe_un un_neg pe_w) (WO.mono h fun o1 E1 ⟨i, g, kk⟩ => ⟨_, _, g, fun Z H v1 G1 r1 Q q => by
    cases r1
    exact ⟨i, rfl, q _ H [] (.int _) Grow.refl⟩, kk⟩)
end
end DL

namespace DL
open PySem PySem.Spec L2
variable [LamT]

section
variable {K : PySem.W.Frag} {Z Z1 Z2 Z' : Addr → Prop} {H H1 H2 H' : Hp} {F F1 F2 F' G G1 G2 G' R : List Addr} {σ : Sl} {E E1 E2 E' : EnvT} {d d1 d2 : D} {v v1 v2 : V} {ds : List D} {vs : List V}
theorem Fin.then (a : Fin K Z H σ F E1 Z1 H1 F1 G1) (b : Fin K Z1 H1 σ F1 E2 Z2 H2 F2 G2) : Fin K Z H σ F E2 Z2 H2 F2 G2 := a.nil.join (fun x h => nomatch h) b
/-- the items of a list or a tuple -/
def D.seq : D → Option (List D)
  | .tup ds => some ds
  | .pt ds => some ds
  | .lst ds => some ds
  | .fz ds => some ds
  | .ow _ ds => some ds
  | _ => none
def D.tseq : D → Option (List D)
  | .tup ds => some ds
  | .pt ds => some ds
  | _ => none
def D.lseq : D → Option (List D)
  | .lst ds => some ds
  | .fz ds => some ds
  | .ow _ ds => some ds
  | _ => none
theorem Rep.tseq (r : Rep K Z H d v G) (h : d.tseq = some ds) : ∃ a vs, v = .ref a ∧ SqT K H a vs ∧ Reps K Z H ds vs G := by
  cases r <;> simp only [D.tseq, Option.some.injEq, reduceCtorEq] at h
  case tup a ds' vs hs r => subst h; exact ⟨a, vs, rfl, hs, r⟩
  case pt a ob ds' vs hs hd r => subst h; exact ⟨a, vs, rfl, .inl (.inr ⟨ob, hs⟩), r⟩
theorem Rep.lseq (r : Rep K Z H d v G) (h : d.lseq = some ds) : ∃ a vs G', v = .ref a ∧ SqL K H a vs ∧ Reps K Z H ds vs G' := by
  cases r <;> simp only [D.lseq, Option.some.injEq, reduceCtorEq] at h
  case lst a ds' vs F hs r => subst h; exact ⟨a, vs, F, rfl, SqL.of hs, r⟩
  case ow a ds' vs F hs r => subst h; exact ⟨a, vs, F, rfl, SqL.of hs, r⟩
  case fz a ds' vs hs r =>
    subst h
    refine ⟨a, vs, [], rfl, ?_, r⟩
    rcases hs with q | q
    · exact .inl q.2
    · exact q H
theorem Rep.seq (r : Rep K Z H d v G) (h : d.seq = some ds) : ∃ a vs G', v = .ref a ∧ (SqL K H a vs ∨ SqT K H a vs) ∧ Reps K Z H ds vs G' := by
  cases d <;> simp only [D.seq, Option.some.injEq, reduceCtorEq] at h
  case tup es => obtain ⟨a, vs, e, q1, q2⟩ := r.tseq (ds := ds) (by simp [D.tseq, h]); exact ⟨a, vs, _, e, .inr q1, q2⟩
  case pt es => obtain ⟨a, vs, e, q1, q2⟩ := r.tseq (ds := ds) (by simp [D.tseq, h]); exact ⟨a, vs, _, e, .inr q1, q2⟩
  case lst es => obtain ⟨a, vs, G', e, q1, q2⟩ := r.lseq (ds := ds) (by simp [D.lseq, h]); exact ⟨a, vs, _, e, .inl q1, q2⟩
  case ow b es => obtain ⟨a, vs, G', e, q1, q2⟩ := r.lseq (ds := ds) (by simp [D.lseq, h]); exact ⟨a, vs, _, e, .inl q1, q2⟩
  case fz es => obtain ⟨a, vs, G', e, q1, q2⟩ := r.lseq (ds := ds) (by simp [D.lseq, h]); exact ⟨a, vs, _, e, .inl q1, q2⟩
theorem Reps.at (r : Reps K Z H ds vs G) {i : Int} (h : atI ds i = some d) : ∃ v G', atI vs i = some v ∧ Rep K Z H d v G' := by
  unfold atI at h ⊢
  rw [r.len] at h
  cases e : ixN vs.length i with
  | none => rw [e] at h; simp at h
  | some j =>
    rw [e] at h
    obtain ⟨v, G', h1, h2, _⟩ := r.get (i := j) (d := d) (by simpa using h)
    exact ⟨v, G', by simpa using h1, h2⟩
def cutD (xs : List D) (lo hi : Option Int) : List D := (xs.drop (HT.sIx xs.length 0 lo)).take (HT.sIx xs.length xs.length hi - HT.sIx xs.length 0 lo)
theorem Reps.cut (r : Reps K Z H ds vs G) (lo hi : Option Int) : ∃ G', Reps K Z H (cutD ds lo hi) (cutV vs lo hi) G' := by
  obtain ⟨G1, h1, _⟩ := r.drop (HT.sIx ds.length 0 lo)
  obtain ⟨G2, h2, _⟩ := h1.take (HT.sIx ds.length ds.length hi - HT.sIx ds.length 0 lo)
  refine ⟨G2, ?_⟩
  unfold cutD cutV
  rw [r.len] at h2 ⊢
  exact h2
theorem imms_cut {lo hi : Option Int} (h : Imms ds) : Imms (cutD ds lo hi) := imms_iff.mpr fun d hd => imms_iff.mp h d (List.drop_subset _ _ (List.take_subset _ _ hd))
end

/-! ### tests -/
section
variable {X : Cx} {n : Nat} {e a b c : Expr} {es : List Expr} {E : EnvT} {k : Opd → EnvT → Prop} {kb : Bool → EnvT → Prop} {pos p : Pos} {rest : List Expr}
theorem wt_val (h : WO X e E fun o E1 => ∃ t, o.get E1 = some (.bl t) ∧ kb t E1) (he : ∀ whole, isTrue e X.env whole = (do let v ← whole; standAt e.pos; holding [v] (truthy v)) := by intro _; rfl) : WT X e E kb := by
  intro Z H σ F Q he' hk
  refine wpT_by (pt_val pe_w he) (h Z H σ F _ he' fun o E1 Z1 H1 F1 G v ⟨t, g, q⟩ f r => ?_)
  obtain ⟨G', r', _⟩ := r.use f.env g
  cases r'
  exact ⟨t, rfl, hk t E1 Z1 H1 F1 q f.nil⟩
theorem wt_not (h : WT X a E fun t E1 => kb (!t) E1) : WT X (.UnaryOp .Not a pos) E kb := by
  intro Z H σ F Q he hk
  refine wpT_by (pt_not pt_w) ?_
  exact h Z H σ F _ he fun t E1 Z1 H1 F1 q f => hk _ E1 Z1 H1 F1 q f
theorem wt_bool {op} (h : WW X (.BoolOp op es pos) E kb) : WT X (.BoolOp op es pos) E kb := by
  intro Z H σ F Q he hk
  exact wpT_by pw_w.pt (h Z H σ F Q he hk)
theorem ww_and1 (h : WT X a E kb) : WW X (.BoolOp .And [a] pos) E kb := fun Z H σ F Q he hk => wpW_by (pw_and1 pt_w) (h Z H σ F Q he hk)
theorem ww_or1 (h : WT X a E kb) : WW X (.BoolOp .Or [a] pos) E kb := fun Z H σ F Q he hk => wpW_by (pw_or1 pt_w) (h Z H σ F Q he hk)
theorem ww_and (h : WT X a E fun t E1 => (t = true → WW X (.BoolOp .And (b :: rest) pos) E1 kb) ∧ (t = false → kb false E1)) : WW X (.BoolOp .And (a :: b :: rest) pos) E kb := by
  intro Z H σ F Q he hk
  refine wpW_by (pw_and pt_w pw_w) (h Z H σ F _ he fun t E1 Z1 H1 F1 q f => ?_)
  cases t with
  | true => exact q.1 rfl Z1 H1 σ F1 Q f.env fun t2 E2 Z2 H2 F2 q2 f2 => hk t2 E2 Z2 H2 F2 q2 (f.then f2)
  | false => exact hk false E1 Z1 H1 F1 (q.2 rfl) f
theorem ww_or (h : WT X a E fun t E1 => (t = true → kb true E1) ∧ (t = false → WW X (.BoolOp .Or (b :: rest) pos) E1 kb)) : WW X (.BoolOp .Or (a :: b :: rest) pos) E kb := by
  intro Z H σ F Q he hk
  refine wpW_by (pw_or pt_w pw_w) (h Z H σ F _ he fun t E1 Z1 H1 F1 q f => ?_)
  cases t with
  | true => exact hk true E1 Z1 H1 F1 (q.1 rfl) f
  | false => exact q.2 rfl Z1 H1 σ F1 Q f.env fun t2 E2 Z2 H2 F2 q2 f2 => hk t2 E2 Z2 H2 F2 q2 (f.then f2)
/-- as values -/
theorem wo_bone {op} (h : WO X a E k) : WO X (.BoolOp op [a] pos) E k := fun Z H σ F Q he hk => wpE_by (pe_one pe_w) (h Z H σ F Q he hk)
theorem wo_and (h : WO X a E fun o E1 => ∃ t, o.get E1 = some (.bl t) ∧ (t = true → WO X (.BoolOp .And (b :: rest) pos) E1 k) ∧ (t = false → k (.val (.bl false)) E1)) : WO X (.BoolOp .And (a :: b :: rest) pos) E k := by
  intro Z H σ F Q he hk
  refine wpE_by (pe_and pe_w pe_w) (h Z H σ F _ he fun o E1 Z1 H1 F1 G v ⟨t, g, q⟩ f r => ?_)
  obtain ⟨G', r', _⟩ := r.use f.env g
  cases r'
  refine ⟨t, rfl, ?_⟩
  cases t with
  | true => exact q.1 rfl Z1 H1 σ F1 Q f.env fun o2 E2 Z2 H2 F2 G2 v2 q2 f2 r2 => hk o2 E2 Z2 H2 F2 G2 v2 q2 (f.then f2) r2
  | false => exact hk _ E1 Z1 H1 F1 [] _ (q.2 rfl) f.nil (.bl _)
theorem wo_or (h : WO X a E fun o E1 => ∃ t, o.get E1 = some (.bl t) ∧ (t = true → k (.val (.bl true)) E1) ∧ (t = false → WO X (.BoolOp .Or (b :: rest) pos) E1 k)) : WO X (.BoolOp .Or (a :: b :: rest) pos) E k := by
  intro Z H σ F Q he hk
  refine wpE_by (pe_or pe_w pe_w) (h Z H σ F _ he fun o E1 Z1 H1 F1 G v ⟨t, g, q⟩ f r => ?_)
  obtain ⟨G', r', _⟩ := r.use f.env g
  cases r'
  refine ⟨t, rfl, ?_⟩
  cases t with
  | true => exact hk _ E1 Z1 H1 F1 [] _ (q.1 rfl) f.nil (.bl _)
  | false => exact q.2 rfl Z1 H1 σ F1 Q f.env fun o2 E2 Z2 H2 F2 G2 v2 q2 f2 r2 => hk o2 E2 Z2 H2 F2 G2 v2 q2 (f.then f2) r2
theorem wo_not (h : WO X a E fun o E1 => ∃ t, o.get E1 = some (.bl t) ∧ k (.val (.bl (!t))) E1) : WO X (.UnaryOp .Not a pos) E k := by
  intro Z H σ F Q he hk
  refine wpE_by (pe_not pe_w) (h Z H σ F _ he fun o E1 Z1 H1 F1 G v ⟨t, g, q⟩ f r => ?_)
  obtain ⟨G', r', _⟩ := r.use f.env g
  cases r'
  exact ⟨t, rfl, hk _ E1 Z1 H1 F1 [] _ q f.nil (.bl _)⟩
theorem wo_if (h : WT X c E fun t E1 => (t = true → WO X a E1 k) ∧ (t = false → WO X b E1 k)) : WO X (.IfExp c a b pos) E k := by
  intro Z H σ F Q he hk
  refine wpE_by (pe_ifExp pt_w pe_w pe_w) (h Z H σ F _ he fun t E1 Z1 H1 F1 q f => ?_)
  cases t with
  | true => exact q.1 rfl Z1 H1 σ F1 Q f.env fun o2 E2 Z2 H2 F2 G2 v2 q2 f2 r2 => hk o2 E2 Z2 H2 F2 G2 v2 q2 (f.then f2) r2
  | false => exact q.2 rfl Z1 H1 σ F1 Q f.env fun o2 E2 Z2 H2 F2 G2 v2 q2 f2 r2 => hk o2 E2 Z2 H2 F2 G2 v2 q2 (f.then f2) r2
theorem wo_nameI {i : Nat} {x : Str} {d : D} (hN : X.N[i]? = some x) (hE : E[i]? = some (some d)) (hi : Imm d) (h : k (.val d) E) (hv : Vis X.env.scope x := by first | exact Or.inl rfl | exact Or.inr (Or.inl rfl) | exact Or.inr (Or.inr rfl))
    (hd : (x == ("__debug__" : Str)) = false := by decide) (hcd : (x == ("__classdict__" : Str)) = false := by decide) : WO X (.Name x pos) E k := wo_of (we_name hN hE hi h hv hd hcd)
/-! ### displays -/
theorem OpdRs.vals {K : PySem.W.Frag} {Z : Addr → Prop} {H : Hp} {σ : Sl} : ∀ {ds : List D} {vs : List V} {G : List Addr}, OpdRs K Z H σ (ds.map Opd.val) vs G → Reps K Z H ds vs G
  | [], _, _, .nil => .nil
  | d :: ds, _, _, .cons r rs => .cons r (OpdRs.vals rs)
def valsOf : List Opd → Option (List D)
  | [] => some []
  | .val d :: os => (match valsOf os with
    | some ds => some (d :: ds)
    | none => none)
  | .bor _ :: _ => none
theorem valsOf_map : ∀ {os : List Opd} {ds : List D}, valsOf os = some ds → os = ds.map Opd.val
  | [], ds, h => by
    rw [valsOf] at h
    cases h
    rfl
  | .val d :: os, ds, h => by
    rw [valsOf] at h
    cases e : valsOf os with
    | none => rw [e] at h; cases h
    | some es =>
      rw [e] at h
      cases h
      rw [valsOf_map e]
      rfl
  | .bor _ :: _, ds, h => by
    rw [valsOf] at h
    cases h
theorem wo_tup {x1} (h : WA X es E fun os E1 => ∃ ds, valsOf os = some ds ∧ ds.length ≤ 100000 ∧ k (.val (.tup ds)) E1) : WO X (.Tuple es x1 pos) E k := by
  intro Z H σ F Q he hk
  refine wpE_by (pe_tup pa_w) (h Z H σ F _ he fun os E1 Z1 H1 F1 G vs ⟨ds, eo, hl, q⟩ f r => ?_)
  have eo' := valsOf_map eo
  subst eo'
  have r' := r.vals
  have hlen := r'.len
  refine ⟨Nat.le_trans (by omega) (by decide : 100000 ≤ sizeLine), fun p hp => ?_⟩
  have g : Grow H1 (upd H1 p (.tup vs)) [] := Grow.new0 hp
  refine hk _ E1 Z1 _ F1 G _ q ⟨⟨f.env.r.kp g.kp fun a _ o _ e => g.gr a o e, f.env.nd, f.env.nz, f.env.zt.gr g⟩, f.nd, f.nz, f.st.trans ?_⟩ (.tup (SqT.of upd_same) (r'.grow g))
  · have s := g.st (Z := Z1) (F := G ++ F1)
    exact s
theorem wo_lst (h : WA X es E fun os E1 => ∃ ds, valsOf os = some ds ∧ ds.length ≤ 100000 ∧ k (.val (.lst ds)) E1) : WO X (.List es pos) E k := by
  intro Z H σ F Q he hk
  refine wpE_by (pe_lst pa_w) (h Z H σ F _ he fun os E1 Z1 H1 F1 G vs ⟨ds, eo, hl, q⟩ f r => ?_)
  have eo' := valsOf_map eo
  subst eo'
  have r' := r.vals
  have hlen := r'.len
  refine ⟨Nat.le_trans (by omega) (by decide : 100000 ≤ sizeLine), fun p hp => ?_⟩
  have g : Grow H1 (upd H1 p (.lst vs)) [p] := Grow.new hp
  have pf : p ∉ G ++ F1 := fun hm => by
    rcases List.mem_append.mp hm with m | m
    · obtain ⟨o, e, _⟩ := r'.mem p m; rw [hp] at e; cases e
    · obtain ⟨o, e, _⟩ := f.env.r.mem p m; rw [hp] at e; cases e
  refine hk _ E1 Z1 _ F1 (p :: G) _ q ⟨⟨f.env.r.kp g.kp fun a _ o _ e => g.gr a o e, f.env.nd, f.env.nz, f.env.zt.gr g⟩, List.nodup_cons.mpr ⟨pf, f.nd⟩, fun x hx z => ?_, f.st.trans ?_⟩ (.lst upd_same (r'.grow g))
  · rcases List.mem_cons.mp hx with m | m
    · obtain ⟨o, e, _⟩ := f.env.zt.th x z
      rw [m, hp] at e
      cases e
    · exact f.nz x m z
  · exact g.st (Z := Z1) (F := G ++ F1)

/-! ### items and slices -/
theorem wo_ix (hb : PlainIx b) (h : WO X a E fun o1 E1 => WO X b E1 fun o2 E2 => ∃ ds i d, (o1.get E2).bind D.seq = some ds ∧ o2.get E2 = some (.int i) ∧ atI ds i = some d ∧ Imm d ∧ k (.val d) E2) : WO X (.Subscript a b pos) E k := by
  refine wo_two (r := rIx X.K) (pe_ix ix_seq pe_w pe_w hb) (WO.mono h fun o1 E1 q => WO.mono q fun o2 E2 ⟨ds, i, d, g1, g2, hat, im, kk⟩ => ?_)
  cases g : o1.get E2 with
  | none => rw [g] at g1; simp at g1
  | some d1 =>
    rw [g] at g1
    refine ⟨d1, .int i, d, rfl, g2, fun Z H v1 v2 G1 G2 r1 r2 Q q => ?_, kk⟩
    cases r2
    obtain ⟨p, vs, G', rfl, hs, rs⟩ := r1.seq (by simpa using g1)
    obtain ⟨v, G3, h1, h2⟩ := rs.at hat
    rcases hs with hs | hs
    · exact .inl ⟨p, vs, i, v, rfl, rfl, hs, h1, q v H [] (h2.nils im) Grow.refl⟩
    · exact .inr (.inl ⟨p, vs, i, v, rfl, rfl, hs, h1, q v H [] (h2.nils im) Grow.refl⟩)
end
end DL

namespace DL
open PySem PySem.Spec L2
variable [LamT]

/-! ### slices -/
def wpP (X : Cx) (o : Option Expr) (σ : Sl) (H : Hp) (Q : Option Int → Hp → Prop) : Prop := ∀ (pins : List (Addr × Obj)) (s : Shared), Inv X pins σ H s → wpAny (model X.prog X.w) X.A (evalPart o X.env) (fun u s' => ∃ o H', Inv X pins σ H' s' ∧ IsPart u o ∧ Q o H') X.xe s
theorem po_w {X : Cx} {o : Option Expr} : PO X o (wpP X o) := ⟨fun pins s σ H Q I h => h pins s I⟩
def WPt (X : Cx) (o : Option Expr) (E : EnvT) (k : Option Int → EnvT → Prop) : Prop := ∀ (Z : Addr → Prop) (H : Hp) (σ : Sl) (F : List Addr) (Q : Option Int → Hp → Prop), EnvS X.K Z H E σ F →
  (∀ (i : Option Int) (E' : EnvT) (Z' : Addr → Prop) (H' : Hp) (F' : List Addr), k i E' → Fin X.K Z H σ F E' Z' H' F' [] → Q i H') → wpP X o σ H Q
section
variable {X : Cx} {n : Nat} {e a b c : Expr} {es : List Expr} {E : EnvT} {k : Opd → EnvT → Prop} {pos p p2 : Pos} {lo hi : Option Expr}
theorem wp_none {k : Option Int → EnvT → Prop} (h : k none E) : WPt X none E k := fun Z H σ F Q he hk pins s I => po_none.run pins s σ H Q I (hk none E Z H F h (Fin.refl he))
theorem wp_some {k : Option Int → EnvT → Prop} (h : WO X e E fun o E1 => ∃ i, o.get E1 = some (.int i) ∧ k (some i) E1) : WPt X (some e) E k := by
  intro Z H σ F Q he hk pins s I
  refine (po_some pe_w).run pins s σ H Q I (h Z H σ F _ he fun o E1 Z1 H1 F1 G v ⟨i, g, q⟩ f r => ?_)
  obtain ⟨G', r', _⟩ := r.use f.env g
  cases r'
  exact ⟨i, rfl, hk (some i) E1 Z1 H1 F1 q f.nil⟩
theorem wo_sl {r : V → Option Int → Option Int → Hp → VK → Prop} (hr : SlR X r) (h : WO X e E fun o E1 => WPt X lo E1 fun l E2 => WPt X hi E2 fun u E3 => ∃ d1 d, o.get E3 = some d1 ∧ (∀ Z H v G, Rep X.K Z H d1 v G → Gives X.K Z H d (r v l u H)) ∧ k (.val d) E3) :
    WO X (.Subscript e (.Slice lo hi none p2) pos) E k := by
  intro Z H σ F Q he hk
  refine wpE_by (pe_slice hr pe_w po_w po_w) (h Z H σ F _ he fun o1 E1 Z1 H1 F1 G1 v1 k1 f1 r1 => ?_)
  refine k1 Z1 H1 σ F1 _ f1.env fun l E2 Z2 H2 F2 k2 f2 => ?_
  refine k2 Z2 H2 σ F2 _ f2.env fun u E3 Z3 H3 F3 ⟨d1, d, g, op, k3⟩ f3 => ?_
  have f23 := f2.then f3
  have r1' := r1.step f23.st (f1.off r1.mem f23)
  obtain ⟨G', q, _⟩ := r1'.use f3.env g
  refine op Z3 H3 v1 G' q Q fun v H' G rv gr => ?_
  exact hk _ E3 Z3 H' F3 G v k3 ((f1.join r1.mem f23).grow gr) rv
/-! ### + and * of lists and tuples -/
theorem Reps.rep {K : PySem.W.Frag} {Z : Addr → Prop} {H : Hp} {ds : List D} {vs : List V} (r : Reps K Z H ds vs []) : ∀ m : Nat, Reps K Z H (List.replicate m ds).flatten (List.replicate m vs).flatten []
  | 0 => .nil
  | m + 1 => by
    rw [List.replicate_succ, List.replicate_succ, List.flatten_cons, List.flatten_cons]
    exact r.app (Reps.rep r m)
/-! ### == and in of data -/
mutual
def toPy : D → PyData
  | .non => .none
  | .bl b => .bool b
  | .int i => .int i
  | .str x => .str x
  | .tup ds => .tuple (toPys ds)
  | .pt ds => .tuple (toPys ds)
  | .lst ds => .list (toPys ds)
  | .fz ds => .list (toPys ds)
  | .ow _ ds => .list (toPys ds)
  | _ => .dict []
def toPys : List D → List PyData
  | [] => []
  | d :: ds => toPy d :: toPys ds
end
/-- data that == can be asked of -/
def Shp (d : D) : Prop := SeqAt.shaped (toPy d) = true
section
variable {K : PySem.W.Frag} {Z : Addr → Prop} {H : Hp}
mutual
theorem Rep.dp : ∀ {d : D} {v : V} {G : List Addr}, Rep K Z H d v G → (toPy d).canLay0 = true → Dp K H v (toPy d)
  | _, _, _, .non, _ => by rw [toPy]; exact .non
  | _, _, _, .bl b, _ => by rw [toPy]; exact .bl b
  | _, _, _, .int i, _ => by rw [toPy]; exact .int i
  | _, _, _, .str x, _ => by rw [toPy]; exact .str x
  | _, _, _, .tup hs r, h => by
    rw [toPy] at h ⊢
    exact .tup hs (Reps.dp r (by simpa [PyData.canLay0] using h))
  | _, _, _, .pt hs _ r, h => by
    rw [toPy] at h ⊢
    exact .tup (.inl (.inr ⟨_, hs⟩)) (Reps.dp r (by simpa [PyData.canLay0] using h))
  | _, _, _, .lst hs r, h => by
    rw [toPy] at h ⊢
    exact .lst (SqL.of hs) (Reps.dp r (by simpa [PyData.canLay0] using h))
  | _, _, _, .fz hs r, h => by
    rw [toPy] at h ⊢
    refine .lst ?_ (Reps.dp r (by simpa [PyData.canLay0] using h))
    rcases hs with q | q
    · exact .inl q.2
    · exact q H
  | _, _, _, .dic _ _ _, h => by simp [toPy, PyData.canLay0] at h
  | _, _, _, .fd _ _, h => by simp [toPy, PyData.canLay0] at h
  | _, _, _, .obj _ _ _, h => by simp [toPy, PyData.canLay0] at h
  | _, _, _, .op _, h => by simp [toPy, PyData.canLay0] at h
  | _, _, _, .exc _, h => by simp [toPy, PyData.canLay0] at h
  | _, _, _, .exd _ _, h => by simp [toPy, PyData.canLay0] at h
  | _, _, _, .ow hs r, h => by
    rw [toPy] at h ⊢
    exact .lst (SqL.of hs) (Reps.dp r (by simpa [PyData.canLay0] using h))
  | _, _, _, .fw _ _ _, h => by simp [toPy, PyData.canLay0] at h
  | _, _, _, .fo _ _ _ _, h => by simp [toPy, PyData.canLay0] at h
theorem Reps.dp : ∀ {ds : List D} {vs : List V} {G : List Addr}, Reps K Z H ds vs G → PyData.canLayAll0 (toPys ds) = true → DpAll K H vs (toPys ds)
  | _, _, _, .nil, _ => by rw [toPys]; exact .nil
  | _, _, _, .cons r rs, h => by
    rw [toPys] at h ⊢
    rw [PyData.canLayAll0, Bool.and_eq_true] at h
    exact .cons (Rep.dp r h.1) (Reps.dp rs h.2)
end
end
def deq (d1 d2 : D) : Bool := PyData.eqv (toPy d1) (toPy d2)
/-- flat things: no lists, no tuples -/
def flatD : D → Bool
  | .non => true
  | .bl _ => true
  | .int _ => true
  | .str _ => true
  | _ => false
theorem Rep.flat {K : PySem.W.Frag} {Z : Addr → Prop} {H : Hp} {d : D} {v : V} {G : List Addr} (r : Rep K Z H d v G) (h : flatD d = true) : flatV v = true ∧ ∀ (d' : D) (v' : V) (G' : List Addr), Rep K Z H d' v' G' → flatD d' = true → eqV v' v = deq d' d := by
  cases d <;> simp only [flatD, reduceCtorEq] at h <;> cases r <;> refine ⟨rfl, fun d' v' G' r' h' => ?_⟩ <;> cases d' <;> simp only [flatD, reduceCtorEq] at h' <;> cases r' <;> simp [eqV, deq, toPy, PyData.eqv]
theorem Reps.flat {K : PySem.W.Frag} {Z : Addr → Prop} {H : Hp} {d : D} {v : V} {G : List Addr} (r : Rep K Z H d v G) (h : flatD d = true) : ∀ {ds : List D} {vs : List V} {Gs : List Addr}, Reps K Z H ds vs Gs → ds.all flatD = true → vs.all flatV = true ∧ inV v vs = ds.any fun x => deq x d
  | _, _, _, .nil, _ => ⟨rfl, rfl⟩
  | _, _, _, .cons r1 rs, ha => by
    rw [List.all_cons, Bool.and_eq_true] at ha
    obtain ⟨h1, h2⟩ := Reps.flat r h rs ha.2
    refine ⟨by rw [List.all_cons, (r1.flat ha.1).1, h1]; rfl, ?_⟩
    unfold inV at h2 ⊢
    rw [List.any_cons, List.any_cons, h2, (r.flat h).2 _ _ _ r1 ha.1]
end
end DL

namespace DL
open PySem PySem.Spec L2
variable [LamT]

section
variable {X : Cx} {n : Nat} {e a b c f : Expr} {es : List Expr} {E : EnvT} {k : Opd → EnvT → Prop} {pos p p2 : Pos} {r : List V → Hp → VK → Prop}
def GivesP (K : PySem.W.Frag) (Z : Addr → Prop) (H : Hp) (P : D → Prop) (r : VK → Prop) : Prop := ∀ Q : VK, (∀ d v H' G, P d → Rep K Z H' d v G → Grow H H' G → Q v H') → r Q
theorem wo_ba (hp : PE X f (tCB r (wpA X es))) (h : WA X es E fun os E1 => ∃ P : D → Prop, (∀ Z H σ F vs G, EnvS X.K Z H E1 σ F → OpdRs X.K Z H σ os vs G → GivesP X.K Z H P (r vs H)) ∧ ∀ d, P d → k (.val d) E1) : WO X f E k := by
  intro Z H σ F Q he hk
  refine wpE_by hp (h Z H σ F _ he fun os E1 Z1 H1 F1 G vs ⟨P, op, q⟩ f1 r1 => ?_)
  refine op Z1 H1 σ F1 vs G f1.env r1 Q fun d v H' G' pd rv gr => ?_
  exact hk _ E1 Z1 H' F1 G' v (q d pd) (f1.grow gr) rv
theorem WA.mono {k k' : List Opd → EnvT → Prop} (h : WA X es E k) (m : ∀ o E', k o E' → k' o E') : WA X es E k' := fun Z H σ F Q he hk => h Z H σ F Q he fun o E' Z' H' F' G v q => hk o E' Z' H' F' G v (m o E' q)
theorem wo_b1 (hp : PE X f (tCB r (wpA X [a]))) (h : WO X a E fun o1 E1 => ∃ d1, o1.get E1 = some d1 ∧ ∃ P : D → Prop, (∀ Z H v G, Rep X.K Z H d1 v G → GivesP X.K Z H P (r [v] H)) ∧ ∀ d, P d → k (.val d) E1)
    (hs : starEach [a] X.env = (false, eval a X.env) :: starEach [] X.env := by rfl) : WO X f E k := by
  refine wo_ba hp (wa_cons (WO.mono h fun o1 E1 ⟨d1, g, P, op, q⟩ => wa_nil ⟨P, fun Z H σ F vs G he rs => ?_, q⟩) hs)
  cases rs with
  | cons r1 rs =>
    cases rs
    obtain ⟨G', r', _⟩ := r1.use he g
    exact op Z H _ G' r'
theorem wo_b2 (hp : PE X f (tCB r (wpA X [a, b]))) (h : WO X a E fun o1 E1 => WO X b E1 fun o2 E2 => ∃ d1 d2, o1.get E2 = some d1 ∧ o2.get E2 = some d2 ∧ ∃ P : D → Prop, (∀ Z H v1 v2 G1 G2, Rep X.K Z H d1 v1 G1 → Rep X.K Z H d2 v2 G2 → GivesP X.K Z H P (r [v1, v2] H)) ∧ ∀ d, P d → k (.val d) E2)
    (hs : starEach [a, b] X.env = (false, eval a X.env) :: starEach [b] X.env := by rfl) (hs2 : starEach [b] X.env = (false, eval b X.env) :: starEach [] X.env := by rfl) : WO X f E k := by
  refine wo_ba hp (wa_cons (WO.mono h fun o1 E1 q => wa_cons (WO.mono q fun o2 E2 ⟨d1, d2, g1, g2, P, op, q⟩ => wa_nil ⟨P, fun Z H σ F vs G he rs => ?_, q⟩) hs2) hs)
  cases rs with
  | cons r1 rs =>
    cases rs with
    | cons r2 rs =>
      cases rs
      obtain ⟨G1, r1', _⟩ := r1.use he g1
      obtain ⟨G2, r2', _⟩ := r2.use he g2
      exact op Z H _ _ G1 G2 r1' r2'
theorem GivesP.one {K : PySem.W.Frag} {Z : Addr → Prop} {H : Hp} {d : D} {r : VK → Prop} (h : ∀ Q : VK, (∀ v H' G, Rep K Z H' d v G → Grow H H' G → Q v H') → r Q) : GivesP K Z H (fun x => x = d) r := fun Q q => h Q fun v H' G rv g => q d v H' G rfl rv g

/-! ### built-ins by name -/
theorem wo_len (hg : Gl X "len") (hm : X.mg "len" = none) (h : WO X a E fun o E1 => ∃ ds, (o.get E1).bind D.seq = some ds ∧ k (.val (.int ds.length)) E1) (hs : starEach [a] X.env = (false, eval a X.env) :: starEach [] X.env := by rfl) : WO X (.Call (.Name "len" p) [a] [] pos) E k :=
  wo_b1 (pe_callB call_len_seq hg hm boot_len pa_w (he := hs)) (WO.mono h fun o E1 ⟨ds, g1, kk⟩ => by
    cases g : o.get E1 with
    | none => rw [g] at g1; simp at g1
    | some d1 =>
      rw [g] at g1
      refine ⟨d1, rfl, _, fun Z H v G rv => GivesP.one fun Q q => ?_, fun d e => by rw [e]; exact kk⟩
      obtain ⟨x, vs, G', rfl, hs, rs⟩ := rv.seq (by simpa using g1)
      refine ⟨x, vs, rfl, hs, ?_⟩
      rw [← rs.len]
      exact q _ H [] (.int _) Grow.refl) hs
theorem wo_abs (hg : Gl X "abs") (hm : X.mg "abs" = none) (h : WO X a E fun o E1 => ∃ i, o.get E1 = some (.int i) ∧ k (.val (.int (if i < 0 then -i else i))) E1) (hs : starEach [a] X.env = (false, eval a X.env) :: starEach [] X.env := by rfl) : WO X (.Call (.Name "abs" p) [a] [] pos) E k :=
  wo_b1 (pe_callB call_abs hg hm (by decide +kernel) pa_w (he := hs)) (WO.mono h fun o E1 ⟨i, g, kk⟩ => ⟨_, g, _, fun Z H v G rv => GivesP.one fun Q q => by
    cases rv
    exact ⟨i, rfl, q _ H [] (.int _) Grow.refl⟩, fun d e => by rw [e]; exact kk⟩) hs
theorem wo_intI (hg : Gl X "int") (hm : X.mg "int" = none) (h : WO X a E fun o E1 => ∃ i, o.get E1 = some (.int i) ∧ k (.val (.int i)) E1) (hs : starEach [a] X.env = (false, eval a X.env) :: starEach [] X.env := by rfl) : WO X (.Call (.Name "int" p) [a] [] pos) E k :=
  wo_b1 (pe_callTy call_int1 hg hm (by decide +kernel) pa_w (he := hs)) (WO.mono h fun o E1 ⟨i, g, kk⟩ => ⟨_, g, _, fun Z H v G rv => GivesP.one fun Q q => by
    cases rv
    exact .inl ⟨i, rfl, q _ H [] (.int _) Grow.refl⟩, fun d e => by rw [e]; exact kk⟩) hs
theorem wo_max2 (hc : X.calm = true) (hg : Gl X "max") (hm : X.mg "max" = none) (h : WO X a E fun o1 E1 => WO X b E1 fun o2 E2 => Two E2 o1 o2 fun i j => k (.val (.int (if j > i then j else i))) E2) (hs : starEach [a, b] X.env = (false, eval a X.env) :: starEach [b] X.env := by rfl) (hs2 : starEach [b] X.env = (false, eval b X.env) :: starEach [] X.env := by rfl) : WO X (.Call (.Name "max" p) [a, b] [] pos) E k :=
  wo_b2 (pe_callB (call_max2 hc) hg hm (by decide +kernel) pa_w (he := hs) (hpl := by rw [hs2]; rfl)) (WO.mono h fun o1 E1 q => WO.mono q fun o2 E2 ⟨i, j, g1, g2, kk⟩ => ⟨_, _, g1, g2, _, fun Z H v1 v2 G1 G2 r1 r2 => GivesP.one fun Q q => by
    cases r1
    cases r2
    exact ⟨i, j, rfl, q _ H [] (.int _) Grow.refl⟩, fun d e => by rw [e]; exact kk⟩) hs hs2
theorem wo_min2 (hc : X.calm = true) (hg : Gl X "min") (hm : X.mg "min" = none) (h : WO X a E fun o1 E1 => WO X b E1 fun o2 E2 => Two E2 o1 o2 fun i j => k (.val (.int (if j < i then j else i))) E2) (hs : starEach [a, b] X.env = (false, eval a X.env) :: starEach [b] X.env := by rfl) (hs2 : starEach [b] X.env = (false, eval b X.env) :: starEach [] X.env := by rfl) : WO X (.Call (.Name "min" p) [a, b] [] pos) E k :=
  wo_b2 (pe_callB (call_min2 hc) hg hm (by decide +kernel) pa_w (he := hs) (hpl := by rw [hs2]; rfl)) (WO.mono h fun o1 E1 q => WO.mono q fun o2 E2 ⟨i, j, g1, g2, kk⟩ => ⟨_, _, g1, g2, _, fun Z H v1 v2 G1 G2 r1 r2 => GivesP.one fun Q q => by
    cases r1
    cases r2
    exact ⟨i, j, rfl, q _ H [] (.int _) Grow.refl⟩, fun d e => by rw [e]; exact kk⟩) hs hs2
/-- tuple(list) -/
theorem wo_tuple (hg : Gl X "tuple") (hm : X.mg "tuple" = none) (h : WO X a E fun o E1 => ∃ ds, (o.get E1).bind D.seq = some ds ∧ Imms ds ∧ k (.val (.tup ds)) E1) (hs : starEach [a] X.env = (false, eval a X.env) :: starEach [] X.env := by rfl) : WO X (.Call (.Name "tuple" p) [a] [] pos) E k :=
  wo_b1 (pe_callTy call_tuple_of hg hm (by decide +kernel) pa_w (he := hs)) (WO.mono h fun o E1 ⟨ds, g1, im, kk⟩ => by
    cases g : o.get E1 with
    | none => rw [g] at g1; simp at g1
    | some d1 =>
      rw [g] at g1
      refine ⟨d1, rfl, _, fun Z H v G rv => GivesP.one fun Q q => ?_, fun d e => by rw [e]; exact kk⟩
      obtain ⟨x, vs, G', rfl, hs, rs⟩ := rv.seq (by simpa using g1)
      have rs0 := rs.nils im
      rcases hs with hs | hs
      · exact ⟨x, vs, rfl, .inl ⟨hs, fun l hl => q _ _ [] (.tup (SqT.of upd_same) (rs0.grow (Grow.new0 hl))) (Grow.new0 hl)⟩⟩
      · exact ⟨x, vs, rfl, .inr ⟨hs, q _ H [] (.tup hs rs0) Grow.refl⟩⟩) hs
/-- list(..) -/
theorem wo_list (hg : Gl X "list") (hm : X.mg "list" = none) (h : WO X a E fun o E1 => ∃ ds, (o.get E1).bind D.seq = some ds ∧ Imms ds ∧ k (.val (.lst ds)) E1) (hs : starEach [a] X.env = (false, eval a X.env) :: starEach [] X.env := by rfl) : WO X (.Call (.Name "list" p) [a] [] pos) E k :=
  wo_b1 (pe_callTy call_list_of hg hm (by decide +kernel) pa_w (he := hs)) (WO.mono h fun o E1 ⟨ds, g1, im, kk⟩ => by
    cases g : o.get E1 with
    | none => rw [g] at g1; simp at g1
    | some d1 =>
      rw [g] at g1
      refine ⟨d1, rfl, _, fun Z H v G rv => GivesP.one fun Q q => ?_, fun d e => by rw [e]; exact kk⟩
      obtain ⟨x, vs, G', rfl, hs, rs⟩ := rv.seq (by simpa using g1)
      exact ⟨x, vs, rfl, hs, fun l hl => q _ _ [l] (.lst upd_same ((rs.nils im).grow (Grow.new hl))) (Grow.new hl)⟩) hs
theorem Reps.ints {K : PySem.W.Frag} {Z : Addr → Prop} {H : Hp} : ∀ {ns : List Int} {vs : List V} {G : List Addr}, Reps K Z H (ns.map D.int) vs G → vs = ns.map V.int
  | [], _, _, .nil => rfl
  | n :: ns, _, _, .cons r rs => by
    cases r
    rw [Reps.ints rs]
    rfl
theorem Reps.ofInts {K : PySem.W.Frag} {Z : Addr → Prop} {H : Hp} : ∀ (ns : List Int), Reps K Z H (ns.map D.int) (ns.map V.int) []
  | [] => .nil
  | n :: ns => .cons (.int n) (Reps.ofInts ns)
theorem Reps.bls {K : PySem.W.Frag} {Z : Addr → Prop} {H : Hp} : ∀ {ns : List Bool} {vs : List V} {G : List Addr}, Reps K Z H (ns.map D.bl) vs G → vs = ns.map V.bl
  | [], _, _, .nil => rfl
  | n :: ns, _, _, .cons r rs => by
    cases r
    rw [Reps.bls rs]
    rfl
/-- all(list of bools) -/
theorem wo_all (hc : X.calm = true) (hg : Gl X "all") (hm : X.mg "all" = none) (h : WO X a E fun o E1 => ∃ ns : List Bool, (o.get E1).bind D.lseq = some (ns.map D.bl) ∧ k (.val (.bl (ns.all id))) E1)
    (hs : starEach [a] X.env = (false, eval a X.env) :: starEach [] X.env := by rfl) : WO X (.Call (.Name "all" p) [a] [] pos) E k :=
  wo_b1 (pe_callB (cr_all hc) hg hm (by decide +kernel) pa_w (he := hs)) (WO.mono h fun o E1 ⟨ns, g1, kk⟩ => by
    cases g : o.get E1 with
    | none => rw [g] at g1; simp at g1
    | some d1 =>
      rw [g] at g1
      refine ⟨d1, rfl, _, fun Z H v G rv => GivesP.one fun Q q => ?_, fun d e => by rw [e]; exact kk⟩
      obtain ⟨x, vs, G', rfl, hs, rs⟩ := rv.lseq (by simpa using g1)
      have ev := rs.bls
      subst ev
      exact ⟨x, ns, rfl, hs, q _ H [] (.bl _) Grow.refl⟩) hs
/-- a tree's built-in class -/
def D.ty : D → Option String
  | .non => some "NoneType"
  | .bl _ => some "bool"
  | .int _ => some "int"
  | .str _ => some "str"
  | .tup _ => some "tuple"
  | .pt _ => some "tuple"
  | .lst _ => some "list"
  | .fz _ => some "list"
  | .ow _ _ => some "list"
  | .dic _ _ => some "dict"
  | .fd _ _ => some "dict"
  | _ => none
theorem Rep.ty {K : PySem.W.Frag} {Z : Addr → Prop} {H : Hp} {d : D} {v : V} {G : List Addr} {t : String} (r : Rep K Z H d v G) (h : d.ty = some t) : TyX K H v (.type t) := by
  cases r <;> simp only [D.ty, Option.some.injEq, reduceCtorEq] at h <;> subst h
  case non => exact .base .non
  case bl => exact .base (.bl _)
  case int => exact .base (.int _)
  case str => exact .base (.str _)
  case tup hs _ =>
    rcases hs with (q | ⟨o, q⟩) | ⟨o, its, m, hk, hc, _⟩
    · exact .base (.tup q)
    · exact .fTuple q
    · exact .kTuple hk hc
  case pt hs _ _ => exact .fTuple hs
  case lst hs _ => exact .base (.lst hs)
  case ow hs _ => exact .base (.lst hs)
  case fz hs _ =>
    rcases hs with ⟨_, (q | ⟨o, q⟩)⟩ | q
    · exact .base (.lst q)
    · exact .base (.frz q)
    · rcases q (fun _ => none) with (q | ⟨o, q⟩) | ⟨o, its, m, hk, hc, _⟩
      · cases q
      · cases q
      · exact .kList hk hc
  case dic hs _ _ => exact .base (.dK hs)
  case fd hs _ => exact .base (.dK hs.2.1)
end
end DL

namespace DL
open PySem PySem.Spec L2
variable [LamT]

section
variable {K : PySem.W.Frag} {Z Z1 Z2 Z' : Addr → Prop} {H H1 H2 H' : Hp} {F F1 F2 F' G Gt G1 G2 G' R Fd Fd' : List Addr} {σ : Sl} {E E1 E2 E' : EnvT} {d d1 d2 : D} {v v1 v2 : V} {ds ds' : List D} {vs vs' : List V} {a : Addr} {i : Nat} {o' : HO}
/-- neither a tuple, nor a table of code objects, nor a code object -/
structure NX (H : Hp) (a : Addr) : Prop where
  tup : ∀ xs, ¬ Rd H a (.tup xs)
  tbl : ∀ ps, H a ≠ some (.tbl ps)
  ext : ∀ φ, H a ≠ some (.ext φ)
/-- what is owned may be changed -/
theorem Stp.upd (ha : a ∈ F) (hz : ¬ Z a) (hm : NX H a) (no : NTb o' := by first | exact ntb_lst | exact ntb_dK | exact ntb_ins | assumption) : Stp Z H F Z (upd H a o') F where
  z1 := fun _ h => h
  z2 := fun _ h => .inl h
  fr := fun b o e hb _ => by rw [upd_ne (fun q => hb (by rw [q]; exact ha))]; exact e
  tb := fun h p hp => by
    obtain ⟨ps, h1, h2, h3⟩ := h p hp
    refine ⟨ps, by rw [upd_ne (fun q => hm.tbl ps (by rw [← q]; exact h1))]; exact h1, h2, fun pos cv hc => ?_⟩
    obtain ⟨c, e1, e2⟩ := h3 pos cv hc
    exact ⟨c, e1, by rw [upd_ne (fun q => hm.ext _ (by rw [← q]; exact e2))]; exact e2⟩
  th := fun b o e n => by
    by_cases h : b = a
    · exact ⟨o', by rw [h]; exact upd_same, no⟩
    · exact ⟨o, by rw [upd_ne h]; exact e, n⟩
  f2 := fun _ h => .inl h
  tu := fun b xs h => by
    have hb : b ≠ a := fun q => hm.tup xs (by rw [← q]; exact h)
    rcases h with h | ⟨o, h⟩
    · exact .inl (by rw [upd_ne hb]; exact h)
    · exact .inr ⟨o, by rw [upd_ne hb]; exact h⟩
  fl := fun b xs z _ h => by
    have hb : b ≠ a := fun q => hz (by rw [← q]; exact z)
    rw [upd_ne hb]
    exact h
  ft := fun b o xs h => by
    have hb : b ≠ a := fun q => hm.tup xs (by rw [← q]; exact .inr ⟨o, h⟩)
    rw [upd_ne hb]
    exact h
/-- a slot's object changed in place: gen tells that the new tree stands -/
theorem EnvS.chg (e : EnvS K Z H E σ F) (hE : E[i]? = some (some d)) (hv : σ[i]? = some (some (.ref a))) (hr : Rep K Z H d (.ref a) (a :: Fd)) (hR : EnvR K Z H (E.set i none) σ R) (hp : F.Perm ((a :: Fd) ++ R)) (hm : NX H a)
    (nt : (Gt ++ F).Nodup) (nzt : ∀ x ∈ Gt, ¬ Z x) (hs : ∀ x ∈ Fd', x ∈ Fd ∨ x ∈ Gt) (hn : (a :: Fd').Nodup) (gen : Stp Z H (Gt ++ F) Z (L2.upd H a o') (Gt ++ F) → Rep K Z (L2.upd H a o') d1 (.ref a) (a :: Fd')) (no : NTb o' := by first | exact ntb_lst | exact ntb_dK | exact ntb_ins | assumption) :
    ∃ F', EnvS K Z (L2.upd H a o') (E.set i (some d1)) σ F' ∧ Stp Z H (Gt ++ F) Z (L2.upd H a o') F' := by
  have nF := hp.nodup_iff.mp e.nd
  have nF' := List.nodup_append.mp nF
  have haF : a ∈ F := hp.mem_iff.mpr (List.mem_append_left _ List.mem_cons_self)
  have s0 : Stp Z H (Gt ++ F) Z (L2.upd H a o') (Gt ++ F) := Stp.upd (List.mem_append_right _ haF) (e.nz a haF) hm
  have s1 : Stp Z H [a] Z (L2.upd H a o') [a] := Stp.upd (by simp) (e.nz a haF) hm
  have hR' := hR.step s1 (fun x hx q => by
    rw [List.mem_singleton.mp q] at hx
    exact nF'.2.2 a List.mem_cons_self a hx rfl)
  obtain ⟨F', h1, h2⟩ := hR'.put (i := i) (d := d1) (v := .ref a) (G := a :: Fd') (by
    obtain ⟨hl, _⟩ := List.getElem?_eq_some_iff.mp hE
    simp [hl]) hv (gen s0)
  rw [List.set_set] at h1
  have sub : ∀ x ∈ a :: Fd', x ∈ Gt ∨ x ∈ a :: Fd := fun x hx => by
    rcases List.mem_cons.mp hx with q | q
    · exact .inr (by rw [q]; exact List.mem_cons_self)
    · exact (hs x q).elim (fun z => .inr (List.mem_cons_of_mem _ z)) .inl
  have inF : ∀ x ∈ F', x ∈ Gt ∨ x ∈ F := fun x hx => by
    rcases List.mem_append.mp (h2.mem_iff.mp hx) with q | q
    · exact (sub x q).imp_right fun z => hp.mem_iff.mpr (List.mem_append_left _ z)
    · exact .inr (hp.mem_iff.mpr (List.mem_append_right _ q))
  have nN : ((a :: Fd') ++ R).Nodup := List.nodup_append.mpr ⟨hn, nF'.2.1, fun x hx y hy q => by
    subst q
    rcases sub x hx with z | z
    · exact (List.nodup_append.mp nt).2.2 x z x (hp.mem_iff.mpr (List.mem_append_right _ hy)) rfl
    · exact nF'.2.2 x z x hy rfl⟩
  refine ⟨F', ⟨h1, h2.nodup_iff.mpr nN, fun x hx => (inF x hx).elim (nzt x) (e.nz x), e.zt.stp s0⟩, s0.sub fun x hx => (inF x hx).elim (List.mem_append_left _) (List.mem_append_right _)⟩
/-- a list in a slot -/
theorem EnvS.lst (e : EnvS K Z H E σ F) (hE : E[i]? = some (some (.lst ds))) : ∃ a vs Fd R, σ[i]? = some (some (.ref a)) ∧ H a = some (.lst vs) ∧ Reps K Z H ds vs Fd ∧ EnvR K Z H (E.set i none) σ R ∧ F.Perm ((a :: Fd) ++ R) := by
  obtain ⟨v, G, R, h1, h2, h3, h4⟩ := e.r.get hE
  cases h2 with
  | lst hl rs => exact ⟨_, _, _, R, h1, hl, rs, h3, h4⟩
theorem lst_nt (h : H a = some (.lst vs)) : NX H a := ⟨(fun xs q => by rcases q with q | ⟨o, q⟩ <;> (rw [h] at q; cases q)), (fun ps q => by rw [h] at q; cases q), fun φ q => by rw [h] at q; cases q⟩
theorem EnvS.chgL (e : EnvS K Z H E σ F) (hE : E[i]? = some (some (.lst ds))) (hv : σ[i]? = some (some (.ref a))) (hl : H a = some (.lst vs)) (rs : Reps K Z H ds vs Fd) (hR : EnvR K Z H (E.set i none) σ R) (hp : F.Perm ((a :: Fd) ++ R))
    (nt : (Gt ++ F).Nodup) (nzt : ∀ x ∈ Gt, ¬ Z x) (hs : ∀ x ∈ Fd', x ∈ Fd ∨ x ∈ Gt) (hn : (a :: Fd').Nodup) (rs' : Reps K Z H ds' vs' Fd') :
    ∃ F', EnvS K Z (L2.upd H a (.lst vs')) (E.set i (some (.lst ds'))) σ F' ∧ Stp Z H (Gt ++ F) Z (L2.upd H a (.lst vs')) F' := by
  have haF : a ∈ F := hp.mem_iff.mpr (List.mem_append_left _ List.mem_cons_self)
  have s1 : Stp Z H [a] Z (L2.upd H a (.lst vs')) [a] := Stp.upd (by simp) (e.nz a haF) (lst_nt hl)
  exact e.chg hE hv (.lst hl rs) hR hp (lst_nt hl) nt nzt hs hn fun _ => .lst upd_same (rs'.step s1 fun x hx q => by
    rw [List.mem_singleton.mp q] at hx
    exact (List.nodup_cons.mp hn).1 hx)
end

section
variable {X : Cx} {n : Nat} {e a b c f : Expr} {es : List Expr} {E : EnvT} {k : Opd → EnvT → Prop} {pos apos p p2 : Pos} {i : Nat} {x : Str}
theorem pe_slot (hN : X.N[i]? = some x) (hv : Vis X.env.scope x := by first | exact Or.inl rfl | exact Or.inr (Or.inl rfl) | exact Or.inr (Or.inr rfl)) (hd : (x == ("__debug__" : Str)) = false := by decide) (hcd : (x == ("__classdict__" : Str)) = false := by decide) : PE X (.Name x p) (tVar i) := pe_var hN hv hd hcd
/-- x.append(e) -/
theorem wo_append (hN : X.N[i]? = some x) (hE : ∃ ds0, E[i]? = some (some (.lst ds0)))
    (h : WO X e E fun o E1 => ∃ d ds, o = .val d ∧ E1[i]? = some (some (.lst ds)) ∧ ds.length < 100000 ∧ k (.val .non) (E1.set i (some (.lst (ds ++ [d])))))
    (hp : PE X (.Name x p) (tVar i)) (hb : PE X (.Call (.Attribute (.Name x p) "append" apos) [e] [] pos) (tBM X.K "list" rAppend (tVar i) (wpA X [e]))) (hs : starEach [e] X.env = (false, eval e X.env) :: starEach [] X.env := by rfl) :
    WO X (.Call (.Attribute (.Name x p) "append" apos) [e] [] pos) E k := by
  intro Z H σ F Q he hk
  obtain ⟨ds0, hE⟩ := hE
  obtain ⟨a0, vs0, Fd0, R0, hv, hl0, _⟩ := he.lst hE
  refine wpE_by hb ⟨_, hv, .inl ⟨rfl, vs0, SqL.of hl0⟩, ?_⟩
  have hA : WA X [e] E fun os E1 => ∃ o, os = [o] ∧ ∃ d ds, o = .val d ∧ E1[i]? = some (some (.lst ds)) ∧ ds.length < 100000 ∧ k (.val .non) (E1.set i (some (.lst (ds ++ [d])))) := wa_cons (WO.mono h fun o E1 q => wa_nil ⟨o, rfl, q⟩) hs
  refine hA Z H σ F _ he fun os E1 Z1 H1 F1 G vs ⟨o, eo, d, ds, ed, hE1, hlen, kk⟩ f1 rs => ?_
  subst eo
  subst ed
  cases rs with
  | cons r1 rn =>
    cases rn
    rename_i w G1
    have f1' : Fin X.K Z H σ F E1 Z1 H1 F1 G1 := by have z := f1; rw [List.append_nil] at z; exact z
    obtain ⟨a1, vs1, Fd, R, hv1, hl1, rd, hR, hp1⟩ := f1.env.lst hE1
    rw [hv] at hv1
    cases hv1
    have hl := rd.len
    have nF := hp1.nodup_iff.mp f1'.env.nd
    have dis := (List.nodup_append.mp f1'.nd).2.2
    have hn : (a0 :: (Fd ++ G1)).Nodup := by
      have n1 := (List.nodup_append.mp nF).1
      refine List.nodup_cons.mpr ⟨fun hm => ?_, List.nodup_append.mpr ⟨(List.nodup_cons.mp n1).2, (List.nodup_append.mp f1'.nd).1, fun y hy z hz q => ?_⟩⟩
      · rcases List.mem_append.mp hm with m | m
        · exact (List.nodup_cons.mp n1).1 m
        · exact dis a0 m a0 (hp1.mem_iff.mpr (List.mem_append_left _ List.mem_cons_self)) rfl
      · subst q
        exact dis y hz y (hp1.mem_iff.mpr (List.mem_append_left _ (List.mem_cons_of_mem _ hy))) rfl
    obtain ⟨F', e2, s2⟩ := f1.env.chgL hE1 hv hl1 rd hR hp1 (Gt := G1) (Fd' := Fd ++ G1) f1'.nd f1'.nz (fun y hy => List.mem_append.mp hy) hn (rd.app (Reps.one r1))
    refine ⟨a0, vs1, w, rfl, rfl, hl1, Nat.lt_of_lt_of_le (by omega) (by decide : 100000 ≤ sizeLine), ?_⟩
    exact hk _ _ Z1 _ F' [] _ kk ⟨e2, e2.nd, (fun y hy => nomatch hy), f1'.st.trans s2⟩ .non
/-- x.insert(e, f), things that own nothing -/
theorem wo_insert (hE : ∃ ds0, E[i]? = some (some (.lst ds0)))
    (h : WO X e E fun o1 E1 => WO X f E1 fun o2 E2 => ∃ j d ds, o1.get E2 = some (.int j) ∧ o2 = .val d ∧ Imm d ∧ E2[i]? = some (some (.lst ds)) ∧ Imms ds ∧ ds.length < 100000 ∧ (0 ≤ j ∧ j < 2 ^ 63) ∧ k (.val .non) (E2.set i (some (.lst (ds.take j.toNat ++ [d] ++ ds.drop j.toNat)))))
    {rr : V → List V → Hp → VK → Prop} (hrr : rr = fun x vs H Q => ∃ (l : Addr) (xs : List V) (i : Int) (y : V), x = .ref l ∧ vs = [.int i, y] ∧ H l = some (.lst xs) ∧ xs.length < sizeLine ∧ 0 ≤ i ∧ i < 2 ^ 63 ∧ Q .non (upd H l (.lst (xs.take i.toNat ++ [y] ++ xs.drop i.toNat))))
    (hb : PE X (.Call (.Attribute (.Name x p) "insert" apos) [e, f] [] pos) (tBM X.K "list" rr (tVar i) (wpA X [e, f]))) (hs : starEach [e, f] X.env = (false, eval e X.env) :: starEach [f] X.env := by rfl) (hs2 : starEach [f] X.env = (false, eval f X.env) :: starEach [] X.env := by rfl) :
    WO X (.Call (.Attribute (.Name x p) "insert" apos) [e, f] [] pos) E k := by
  intro Z H σ F Q he hk
  obtain ⟨ds0, hE⟩ := hE
  obtain ⟨a0, vs0, Fd0, R0, hv, hl0, _⟩ := he.lst hE
  refine wpE_by hb ⟨_, hv, .inl ⟨rfl, vs0, SqL.of hl0⟩, ?_⟩
  have hA : WA X [e, f] E fun os E2 => ∃ o1 o2, os = [o1, o2] ∧ ∃ j d ds, o1.get E2 = some (.int j) ∧ o2 = .val d ∧ Imm d ∧ E2[i]? = some (some (.lst ds)) ∧ Imms ds ∧ ds.length < 100000 ∧ (0 ≤ j ∧ j < 2 ^ 63) ∧ k (.val .non) (E2.set i (some (.lst (ds.take j.toNat ++ [d] ++ ds.drop j.toNat)))) :=
    wa_cons (WO.mono h fun o1 E1 q => wa_cons (WO.mono q fun o2 E2 q => wa_nil ⟨o1, o2, rfl, q⟩) hs2) hs
  refine hA Z H σ F _ he fun os E1 Z1 H1 F1 G vs ⟨o1, o2, eo, j, d, ds, g1, ed, im, hE1, ims, hlen, hj, kk⟩ f1 rs => ?_
  subst eo
  subst ed
  cases rs with
  | cons r1 rn =>
    cases rn with
    | cons r2 rn =>
      cases rn
      rename_i w1 G1 w2 G2
      obtain ⟨Gj, rj, _⟩ := r1.use f1.env g1
      cases rj
      obtain ⟨a1, vs1, Fd, R, hv1, hl1, rd, hR, hp1⟩ := f1.env.lst hE1
      rw [hv] at hv1
      cases hv1
      have hl := rd.len
      have rd0 := rd.nils ims
      have r20 : Rep X.K Z1 H1 d w2 [] := Rep.nils r2 im
      obtain ⟨Ga, ra, _⟩ := rd0.take j.toNat
      obtain ⟨Gb, rb, _⟩ := rd0.drop j.toNat
      have ra0 := ra.nils (imms_iff.mpr fun d hd => imms_iff.mp ims d (List.take_subset _ _ hd))
      have rb0 := rb.nils (imms_iff.mpr fun d hd => imms_iff.mp ims d (List.drop_subset _ _ hd))
      obtain ⟨F', e2, s2⟩ := f1.env.chgL hE1 hv hl1 rd hR hp1 (Gt := []) (Fd' := []) f1.env.nd (fun y hy => nomatch hy) (fun y hy => nomatch hy) (by simp) ((ra0.app (Reps.one r20)).app rb0)
      subst hrr
      refine ⟨a0, vs1, j, w2, rfl, rfl, hl1, Nat.lt_of_lt_of_le (by omega) (by decide : 100000 ≤ sizeLine), hj.1, hj.2, ?_⟩
      exact hk _ _ Z1 _ F' [] _ kk ⟨e2, e2.nd, (fun y hy => nomatch hy), f1.nil.st.trans s2⟩ .non
/-- x.pop() -/
theorem wo_pop {ds : List D} {d : D} (hE : E[i]? = some (some (.lst ds))) (hd : ds[ds.length - 1]? = some d) (hi : Imms ds) (h : k (.val d) (E.set i (some (.lst ds.dropLast))))
    (hb : PE X (.Call (.Attribute (.Name x p) "pop" apos) [] [] pos) (tBM0 X.K "list" rPop (tVar i))) : WO X (.Call (.Attribute (.Name x p) "pop" apos) [] [] pos) E k := by
  intro Z H σ F Q he hk
  obtain ⟨a0, vs, Fd, R, hv, hl0, rd, hR, hp⟩ := he.lst hE
  have rd0 := rd.nils hi
  have hl := rd.len
  obtain ⟨v, G', hv1, rv, _⟩ := rd0.get hd
  refine wpE_by hb ⟨_, hv, .inl ⟨rfl, vs, SqL.of hl0⟩, ?_⟩
  rw [hl] at hv1
  have e1 : ds.dropLast = ds.take (ds.length - 1) := List.dropLast_eq_take
  have e2 : vs.dropLast = vs.take (ds.length - 1) := by rw [hl]; exact List.dropLast_eq_take
  obtain ⟨Ga, ra, _⟩ := rd0.take (ds.length - 1)
  rw [← e1, ← e2] at ra
  have im : Imms ds.dropLast := imms_iff.mpr fun d hd => imms_iff.mp hi d (List.dropLast_subset _ hd)
  obtain ⟨F', e3, s3⟩ := he.chgL hE hv hl0 rd hR hp (Gt := []) (Fd' := []) he.nd (fun y hy => nomatch hy) (fun y hy => nomatch hy) (by simp) (ra.nils im)
  refine ⟨a0, vs, v, rfl, rfl, hl0, hv1, ?_⟩
  have s4 : Stp Z H F Z (upd H a0 (.lst vs.dropLast)) F' := s3
  exact hk _ _ Z _ F' [] v h ⟨e3, e3.nd, (fun y hy => nomatch hy), s4⟩ ((rv.nils (imms_get hi hd)).step s4 fun y hy => nomatch hy)
/-- x.index(e) of a list -/
theorem wo_index {o : Expr} (h : WO X o E fun o1 E1 => ∃ ds0, (o1.get E1).bind D.lseq = some ds0 ∧ WO X e E1 fun o2 E2 => ∃ ds d j z, (o1.get E2).bind D.lseq = some ds ∧ o2.get E2 = some d ∧ flatD d = true ∧ ds.all flatD = true ∧ ds[j]? = some z ∧ deq z d = true ∧
      (∀ (m : Nat) (z' : D), m < j → ds[m]? = some z' → deq z' d = false) ∧ k (.val (.int (j : Nat))) E2)
    (hb : PE X (.Call (.Attribute o "index" apos) [e] [] pos) (tBM X.K "list" (rIndex X.K) (wpE X o) (wpA X [e]))) (hs : starEach [e] X.env = (false, eval e X.env) :: starEach [] X.env := by rfl) :
    WO X (.Call (.Attribute o "index" apos) [e] [] pos) E k := by
  intro Z H σ F Q he hk
  refine wpE_by hb (h Z H σ F _ he fun o1 E1 Z1 H1 F1 G1 v1 ⟨ds0, g0, q⟩ f1 r1 => ?_)
  obtain ⟨d0, gd0, gs0⟩ : ∃ d0, o1.get E1 = some d0 ∧ d0.lseq = some ds0 := by
    cases g : o1.get E1 with
    | none => rw [g] at g0; simp at g0
    | some d0 => rw [g] at g0; exact ⟨d0, rfl, by simpa using g0⟩
  obtain ⟨G0, rr0, _⟩ := r1.use f1.env gd0
  obtain ⟨a0, vs0, G0', ev, hs0, rs0⟩ := rr0.lseq gs0
  refine ⟨by rw [ev]; exact .inl ⟨rfl, vs0, hs0⟩, ?_⟩
  have hA : WA X [e] E1 fun os E2 => ∃ o2, os = [o2] ∧ ∃ ds d j z, (o1.get E2).bind D.lseq = some ds ∧ o2.get E2 = some d ∧ flatD d = true ∧ ds.all flatD = true ∧ ds[j]? = some z ∧ deq z d = true ∧
      (∀ (m : Nat) (z' : D), m < j → ds[m]? = some z' → deq z' d = false) ∧ k (.val (.int (j : Nat))) E2 := wa_cons (WO.mono q fun o E2 q => wa_nil ⟨o, rfl, q⟩) hs
  refine hA Z1 H1 σ F1 _ f1.env fun os E2 Z2 H2 F2 G2 ws ⟨o2, eo, ds, d, j, z, g1, g2, fl, fls, hz, hzd, hno, kk⟩ f2 rs => ?_
  subst eo
  cases rs with
  | cons r2 rn =>
    cases rn
    rename_i w2 G3
    have r1' := r1.step f2.st (f1.off r1.mem f2)
    obtain ⟨d1, gd1, gs1⟩ : ∃ d1, o1.get E2 = some d1 ∧ d1.lseq = some ds := by
      cases g : o1.get E2 with
      | none => rw [g] at g1; simp at g1
      | some d1 => rw [g] at g1; exact ⟨d1, rfl, by simpa using g1⟩
    obtain ⟨G4, rr1, _⟩ := r1'.use f2.env gd1
    obtain ⟨a1, vs, G4', ev1, hs1, rs1⟩ := rr1.lseq gs1
    obtain ⟨G5, rr2, _⟩ := r2.use f2.env g2
    obtain ⟨vz, G6, hvz, rz, _⟩ := rs1.get hz
    have flt := rr2.flat fl
    have fz : ∀ (m : Nat) (z' : D), ds[m]? = some z' → flatD z' = true := fun m z' hm => List.all_eq_true.mp fls z' (List.mem_of_getElem? hm)
    refine ⟨a1, vs, w2, j, vz, ev1, rfl, hs1, flt.1, (Reps.flat rr2 fl rs1 fls).1, hvz, ?_, fun m y hm hy => ?_, ?_⟩
    · rw [flt.2 z vz G6 rz (fz j z hz)]
      exact hzd
    · have hml : m < ds.length := by
        have q1 := (List.getElem?_eq_some_iff.mp hy).1
        have q2 := rs1.len
        omega
      obtain ⟨vy, G7, hvy, ry, _⟩ := rs1.get (i := m) (d := ds[m]) (List.getElem?_eq_getElem hml)
      rw [hy] at hvy
      cases hvy
      rw [flt.2 _ y G7 ry (fz m _ (List.getElem?_eq_getElem hml))]
      exact hno m _ hm (List.getElem?_eq_getElem hml)
    · exact hk _ E2 Z2 H2 F2 [] _ kk (f1.then f2).nil (.int _)
end
end DL

namespace DL
open PySem PySem.Spec L2
variable [LamT]

/-! ### while -/
section
variable {X : Cx} {n : List Nat} {e a b c f : Expr} {es : List Expr} {body : List Stmt} {E : EnvT} {k : KS} {pos p : Pos} {tg iter : Expr}
theorem ws_while (hp : PassesOwn (model X.prog X.w) X.A X.env X.xe) (I : Nat → EnvT → Prop) (h0 : ∃ m, I m E)
    (h : ∀ m E', I m E' → WT X c E' fun t E1 => (t = true → WSs X n body E1 { nx := fun E2 => ∃ m', m' < m ∧ I m' E2, rt := k.rt, bk := k.nx, ct := fun E2 => ∃ m', m' < m ∧ I m' E2 }) ∧ (t = false → k.nx E1)) : WS X n (.While c body [] pos) E k := by
  intro Z H σ F D he hk
  obtain ⟨m0, h0⟩ := h0
  refine wpS_by (ps_while hp pt_w pss_w) ?_
  refine ⟨fun m σ' H' => ∃ E' Z' F', I m E' ∧ FinS X.K n Z H σ F E' Z' H' σ' F' [], ⟨m0, E, Z, F, h0, (Fin.refl he).toS⟩, ?_⟩
  rintro m σ1 H1 ⟨E1, Z1, F1, i1, f1⟩
  refine h m E1 i1 Z1 H1 σ1 F1 _ f1.env fun t E2 Z2 H2 F2 q f2 => ?_
  have f12 := f1.trans (f2.toS (n := n))
  cases t with
  | false => exact hk.nx E2 Z2 H2 σ1 F2 (q.2 rfl) f12
  | true =>
    refine ⟨fun σ' H' => ∃ m', m' < m ∧ ∃ E' Z' F', I m' E' ∧ FinS X.K n Z H σ F E' Z' H' σ' F' [], fun σ' H' q => q, ?_⟩
    refine q.1 rfl Z2 H2 σ1 F2 _ f2.env ⟨fun E3 Z3 H3 σ3 F3 ⟨m', lt, i3⟩ f3 => ⟨m', lt, E3, Z3, F3, i3, f12.trans f3⟩, fun d v E3 Z3 H3 σ3 F3 G q3 f3 r3 => hk.rt d v E3 Z3 H3 σ3 F3 G q3 (f12.trans f3) r3, fun E3 Z3 H3 σ3 F3 q3 f3 => hk.nx E3 Z3 H3 σ3 F3 q3 (f12.trans f3), fun E3 Z3 H3 σ3 F3 ⟨m', lt, i3⟩ f3 => ⟨m', lt, E3, Z3, F3, i3, f12.trans f3⟩⟩
end

/-! ### what a loop walks -/
/-- m turns, the j-th gives the tree src j -/
structure SrcOk (K : PySem.W.Frag) (J : It) (m : Nat) (src : Nat → D) (Gp : (Addr → Prop) → Hp → Prop) : Prop where
  goes : ∀ Z i H, i < m → Gp Z H → J.go i H
  stops : ∀ Z H, Gp Z H → J.stop m H
  gives : ∀ Z i H x H', i < m → Gp Z H → J.yld i H x H' → Rep K Z H' (src i) x [] ∧ Grow H H' []
/-- what keeps the walked thing: steps, where the watched slots hold what they held -/
def Stay (K : PySem.W.Frag) (w : List (Nat × D)) (Z : Addr → Prop) (H : Hp) (σ : Sl) (F : List Addr) (Gp : (Addr → Prop) → Hp → Prop) : Prop :=
  ∀ E' Z' H' σ' F' G, FinS K (w.map (·.1)) Z H σ F E' Z' H' σ' F' G → (∀ p ∈ w, E'[p.1]? = some (some p.2)) → Gp Z' H'
def wpI (X : Cx) (tg iter : Expr) (σ : Sl) (H : Hp) (R : It → Hp → Prop) : Prop := ∀ (pins : List (Addr × Obj)) (s : Shared), Inv X pins σ H s →
  wpAny (model X.prog X.w) X.A (eval iter X.env) (fun v s1 => wpAny (model X.prog X.w) X.A (pyIter v) (PIE X pins σ tg R) X.xe s1) X.xe s
def WI (X : Cx) (tg iter : Expr) (E : EnvT) (k : List (Nat × D) → Nat → (Nat → D) → EnvT → Prop) : Prop := ∀ (Z : Addr → Prop) (H : Hp) (σ : Sl) (F : List Addr) (R : It → Hp → Prop), EnvS X.K Z H E σ F →
  (∀ w m src E' Z' H' F' J Gp G, k w m src E' → Fin X.K Z H σ F E' Z' H' F' G → SrcOk X.K J m src Gp → Gp Z' H' → Stay X.K w Z' H' σ F' Gp → R J H') → wpI X tg iter σ H R
section
variable {X : Cx} {n : List Nat} {e a b c f : Expr} {es : List Expr} {body : List Stmt} {E : EnvT} {pos p : Pos} {tg iter : Expr}
theorem pi_w : PI X tg iter (wpI X tg iter) := ⟨fun pins s σ H R I h => h pins s I⟩
theorem wpI_by {t : TI} {σ : Sl} {H : Hp} {R : It → Hp → Prop} (h : PI X tg iter t) (q : t σ H R) : wpI X tg iter σ H R := fun pins s I => h.run pins s σ H R I q
/-- for over anything, by a word of the turn and the slots -/
theorem ws_for {k : KS} (hp : PassesOwn (model X.prog X.w) X.A X.env X.xe) (hc : X.calm = true)
    (h : WI X tg iter E fun w m src E1 => ∃ I : Nat → EnvT → Prop, I 0 E1 ∧ (∀ j E', j ≤ m → I j E' → ∀ p ∈ w, E'[p.1]? = some (some p.2)) ∧
      (∀ j E', j < m → I j E' → WG X (w.map (·.1) ++ n) tg (src j) E' fun E2 => WSs X (w.map (·.1) ++ n) body E2 { nx := I (j + 1), rt := k.rt, bk := k.nx, ct := I (j + 1) }) ∧ ∀ E', I m E' → k.nx E')
    (hs : ∀ x, foldedSetIterable iter X.env x = pure x := by intro _; rfl) : WS X n (.For tg iter body [] pos) E k := by
  intro Z H σ F D he hk
  refine wpS_by (ps_for hp hc pi_w pg_w pss_w hs) (h Z H σ F _ he fun w m src E1 Z1 H1 F1 J Gp G ⟨I, i0, iw, step, fin⟩ f1 ok g1 stay => ?_)
  have f10 := f1.nil
  have pn : ∀ {σ' : Sl}, Pin (w.map (·.1) ++ n) σ σ' → Pin n σ σ' := fun h => h.sub fun i hi => List.mem_append_right _ hi
  have lower : ∀ {E' Z' H' σ' F' G'}, FinS X.K (w.map (·.1) ++ n) Z1 H1 σ F1 E' Z' H' σ' F' G' → FinS X.K n Z H σ F E' Z' H' σ' F' G' := fun q => ⟨q.env, q.nd, q.nz, f10.st.trans q.st, pn q.pin⟩
  have gp : ∀ {j E' Z' H' σ' F'}, j ≤ m → I j E' → FinS X.K (w.map (·.1) ++ n) Z1 H1 σ F1 E' Z' H' σ' F' [] → Gp Z' H' := fun hj ij q => stay _ _ _ _ _ _ ⟨q.env, q.nd, q.nz, q.st, q.pin.sub fun i hi => List.mem_append_left _ hi⟩ (iw _ _ hj ij)
  refine ⟨fun i l σ' H' => l = m - i ∧ i ≤ m ∧ ∃ E' Z' F', I i E' ∧ FinS X.K (w.map (·.1) ++ n) Z1 H1 σ F1 E' Z' H' σ' F' [], ⟨m, by simp, Nat.zero_le _, E1, Z1, F1, i0, ⟨f10.env, f10.nd, f10.nz, Stp.refl, Pin.refl⟩⟩, ?_⟩
  rintro i l σ2 H2 ⟨rfl, hi, E2, Z2, F2, i2, f2⟩
  have gp2 := gp hi i2 f2
  by_cases hlt : i < m
  · refine .inr ⟨ok.goes Z2 i H2 hlt gp2, fun σ' H' => ∃ E' Z' F', I (i + 1) E' ∧ FinS X.K (w.map (·.1) ++ n) Z1 H1 σ F1 E' Z' H' σ' F' [], fun σ' H' q => ⟨m - (i + 1), by omega, rfl, hlt, q⟩, fun x H3 y => ?_⟩
    obtain ⟨rx, gr⟩ := ok.gives Z2 i H2 x H3 hlt gp2 y
    have e3 : EnvS X.K Z2 H3 E2 σ2 F2 := ⟨f2.env.r.kp gr.kp fun a _ o _ e => gr.gr a o e, f2.env.nd, f2.env.nz, f2.env.zt.gr gr⟩
    have f3 : FinS X.K (w.map (·.1) ++ n) Z1 H1 σ F1 E2 Z2 H3 σ2 F2 [] := ⟨e3, e3.nd, (fun a h => nomatch h), f2.st.trans gr.st, f2.pin⟩
    refine step i E2 hlt i2 Z2 H3 σ2 F2 [] x _ e3 rx e3.nd (fun a h => nomatch h) fun E4 Z4 H4 σ4 F4 q4 f4 => ?_
    have f34 := f3.trans (show FinS X.K (w.map (·.1) ++ n) Z2 H3 σ2 F2 E4 Z4 H4 σ4 F4 [] from f4)
    refine q4 Z4 H4 σ4 F4 _ f4.env ⟨fun E5 Z5 H5 σ5 F5 q5 f5 => ⟨E5, Z5, F5, q5, f34.trans f5⟩, fun d v E5 Z5 H5 σ5 F5 G5 q5 f5 r5 => hk.rt d v E5 Z5 H5 σ5 F5 G5 q5 (lower (f34.trans f5)) r5,
      fun E5 Z5 H5 σ5 F5 q5 f5 => hk.nx E5 Z5 H5 σ5 F5 q5 (lower (f34.trans f5)), fun E5 Z5 H5 σ5 F5 q5 f5 => ⟨E5, Z5, F5, q5, f34.trans f5⟩⟩
  · have e : i = m := by omega
    subst e
    exact .inl ⟨ok.stops Z2 H2 gp2, hk.nx E2 Z2 H2 σ2 F2 (fin E2 i2) (lower f2)⟩

/-! ### sources -/
theorem seq_of {o : Opd} {ds : List D} {g : D → Option (List D)} (h : (o.get E).bind g = some ds) : ∃ d, o.get E = some d ∧ g d = some ds := by
  cases e : o.get E with
  | none => rw [e] at h; simp at h
  | some d => rw [e] at h; exact ⟨d, rfl, by simpa using h⟩
theorem getD_some {ds : List D} {i : Nat} {d : D} (h : ds[i]? = some d) : ds.getD i .non = d := by rw [List.getD_eq_getElem?_getD, h]; rfl
theorem SqT.stp {K : PySem.W.Frag} {Z Z' : Addr → Prop} {H H' : Hp} {F F' : List Addr} {a : Addr} {vs : List V} (s : Stp Z H F Z' H' F') (h : SqT K H a vs) : SqT K H' a vs := SqT.kp s.tu h
theorem wi_tup {k : List (Nat × D) → Nat → (Nat → D) → EnvT → Prop} (h : WO X iter E fun o E1 => ∃ ds, (o.get E1).bind D.tseq = some ds ∧ Imms ds ∧ k [] ds.length (fun i => ds.getD i .non) E1) : WI X tg iter E k := by
  intro Z H σ F R he hk
  refine wpI_by (pi_tup pe_w) (h Z H σ F _ he fun o E1 Z1 H1 F1 G v ⟨ds, g1, im, kk⟩ f1 r1 => ?_)
  obtain ⟨d1, gd, gs⟩ := seq_of g1
  obtain ⟨G', r', _⟩ := r1.use f1.env gd
  obtain ⟨a, vs, rfl, hs, rs⟩ := r'.tseq gs
  have rs0 := rs.nils im
  have hl := rs0.len
  have wk := walk_tup (K := X.K) (a := a) (xs := vs)
  refine ⟨a, rfl, ⟨vs, hs⟩, hk [] ds.length _ E1 Z1 H1 F1 _ (fun Z' H' => SqT X.K H' a vs ∧ Reps X.K Z' H' ds vs []) [] kk f1.nil ⟨fun Z' i H' hi q => wk.goes i H' (by omega) q.1, fun Z' H' q => by rw [hl]; exact wk.stops H' q.1, fun Z' i H' x H'' hi q y => ?_⟩ ⟨hs, rs0⟩ fun E' Z' H' σ' F' G fs _ => ⟨SqT.stp fs.st hs, rs0.step fs.st fun a h => nomatch h⟩⟩
  obtain ⟨e, hx⟩ := wk.yields i H' x H'' (by omega) q.1 y
  subst e
  obtain ⟨w, G3, hw, rw', _⟩ := q.2.get (i := i) (d := ds[i]) (List.getElem?_eq_getElem hi)
  rw [hx] at hw
  cases hw
  rw [getD_some (List.getElem?_eq_getElem hi)]
  exact ⟨rw'.nils (imms_get im (List.getElem?_eq_getElem hi)), Grow.refl⟩
/-- what must stand still while a list is walked -/
def watch (E : EnvT) : Opd → List (Nat × D)
  | .val _ => []
  | .bor i => [(i, (E[i]?.join).getD .non)]
/-- a list of things that own nothing, in a slot or just made -/
theorem wi_lst {k : List (Nat × D) → Nat → (Nat → D) → EnvT → Prop} (h : WO X iter E fun o E1 => ∃ ds, (o.get E1).bind D.lseq = some ds ∧ Imms ds ∧ k (watch E1 o) ds.length (fun i => ds.getD i .non) E1) : WI X tg iter E k := by
  intro Z H σ F R he hk
  refine wpI_by (pi_list pe_w) (h Z H σ F _ he fun o E1 Z1 H1 F1 G v ⟨ds, g1, im, kk⟩ f1 r1 => ?_)
  obtain ⟨d1, gd, gs⟩ := seq_of g1
  obtain ⟨G', r', _⟩ := r1.use f1.env gd
  obtain ⟨a, vs, G3, rfl, hs, rs⟩ := r'.lseq gs
  have rs0 := rs.nils im
  refine ⟨a, rfl, ⟨vs, hs⟩, hk (watch E1 o) ds.length _ E1 Z1 H1 F1 _ (fun Z' H' => ∃ vs, SqL X.K H' a vs ∧ Reps X.K Z' H' ds vs []) [] kk f1.nil ⟨fun Z' i H' hi ⟨ws, q1, q2⟩ => ?_, fun Z' H' ⟨ws, q1, q2⟩ => ⟨ws, q1, by rw [q2.len]; exact Nat.le_refl _⟩, fun Z' i H' x H'' hi ⟨ws, q1, q2⟩ y => ?_⟩ ⟨vs, hs, rs0⟩ fun E' Z' H' σ' F' G4 fs hE => ?_⟩
  · obtain ⟨w, _, hw, _, _⟩ := q2.get (i := i) (d := ds[i]) (List.getElem?_eq_getElem hi)
    exact ⟨ws, w, q1, hw⟩
  · obtain ⟨e, hx⟩ := y
    subst e
    obtain ⟨w, G3, hw, rw', _⟩ := q2.get (i := i) (d := ds[i]) (List.getElem?_eq_getElem hi)
    rw [hx ws q1] at hw
    cases hw
    rw [getD_some (List.getElem?_eq_getElem hi)]
    exact ⟨rw'.nils (imms_get im (List.getElem?_eq_getElem hi)), Grow.refl⟩
  · cases o with
    | val d2 =>
      cases gd
      have hr : Rep X.K Z' H' d1 (.ref a) G := Rep.step fs.st r1 fun x hx hf => (List.nodup_append.mp f1.nd).2.2 x hx x hf rfl
      obtain ⟨a2, vs2, G5, e2, hs2, rs2⟩ := hr.lseq gs
      cases e2
      exact ⟨vs2, hs2, rs2.nils im⟩
    | bor i =>
      have hg : E1[i]?.join = some d1 := gd
      have hv : σ[i]? = some (some (.ref a)) := r1.1
      have hi' := hE (i, (E1[i]?.join).getD .non) (by simp [watch])
      rw [hg] at hi'
      obtain ⟨v2, G5, R5, h1, h2, _⟩ := fs.env.r.get (i := i) (d := d1) hi'
      have hp : σ'[i]? = σ[i]? := fs.pin i (by simp [watch])
      rw [hp, hv] at h1
      cases h1
      obtain ⟨a2, vs2, G6, e2, hs2, rs2⟩ := h2.lseq gs
      cases e2
      exact ⟨vs2, hs2, rs2.nils im⟩
theorem wi_range1 {k : List (Nat × D) → Nat → (Nat → D) → EnvT → Prop} (hg : Gl X "range") (hm : X.mg "range" = none) (h : WO X a E fun o E1 => ∃ j : Int, o.get E1 = some (.int j) ∧ (-(2 ^ 62) ≤ j ∧ j < 2 ^ 62) ∧ k [] j.toNat (fun i => .int (0 + (i : Int))) E1)
    (hs : starEach [a] X.env = [(false, eval a X.env)] := by rfl) (hs2 : starEach [a] X.env = (false, eval a X.env) :: starEach [] X.env := by rfl) : WI X tg (.Call (.Name "range" p) [a] [] pos) E k := by
  intro Z H σ F R he hk
  have hA : WA X [a] E fun os E1 => ∃ o, os = [o] ∧ ∃ j : Int, o.get E1 = some (.int j) ∧ (-(2 ^ 62) ≤ j ∧ j < 2 ^ 62) ∧ k [] j.toNat (fun i => .int (0 + (i : Int))) E1 := wa_cons (WO.mono h fun o E1 q => wa_nil ⟨o, rfl, q⟩) hs2
  refine wpI_by (pi_range1 hg hm pa_w hs) (hA Z H σ F _ he fun os E1 Z1 H1 F1 G vs ⟨o, eo, j, g, hj, kk⟩ f1 rs => ?_)
  subst eo
  cases rs with
  | cons r1 rn =>
    cases rn
    obtain ⟨G', r', _⟩ := r1.use f1.env g
    cases r'
    have wk := walk_range (lo := 0) (n := j.toNat)
    refine ⟨j, rfl, hj.1, hj.2, hk [] j.toNat _ E1 Z1 H1 F1 _ (fun _ _ => True) [] kk f1.nil ⟨fun _ i H' hi q => wk.goes i H' hi trivial, fun _ H' q => wk.stops H' trivial, fun Z' i H' x H'' hi q y => ?_⟩ trivial fun _ _ _ _ _ _ _ _ => trivial⟩
    obtain ⟨e, hx⟩ := wk.yields i H' x H'' hi trivial y
    subst e hx
    exact ⟨.int _, Grow.refl⟩
end
end DL

namespace DL
open PySem PySem.Spec L2
variable [LamT]

section
variable {X : Cx} {a : Expr} {E : EnvT} {pos p : Pos}
end
end DL

namespace DL
open PySem PySem.Spec L2
variable [LamT]
open PyProof.Rows (envOfC)

/-! ### a pair as a target -/
section
variable {X : Cx} {n : List Nat} {E : EnvT} {pos p : Pos}
theorem wg_pair {i j kk : Nat} {x y : Str} {d1 d2 : D} {k : EnvT → Prop} {px py pt : Pos} (hc : X.calm = true) (hN : X.N.Nodup) (hi : X.N[i]? = some x) (hj : X.N[j]? = some y) (hx : Loc X.env.scope x) (hy : Loc X.env.scope y) (hni : i ∉ n) (hnj : j ∉ n) (hE : i < E.length) (hE2 : j < E.length)
    (h : k ((E.set i (some d1)).set j (some d2))) (hf : X.fn x = true ∨ X.env.scope.names.lookup x = some .local := by first | exact .inl rfl | exact .inr rfl | assumption) (hf2 : X.fn y = true ∨ X.env.scope.names.lookup y = some .local := by first | exact .inl rfl | exact .inr rfl | assumption)
    (hp : ∀ t, PGs X [.Name x px, .Name y py] t → PG X (.Tuple [.Name x px, .Name y py] kk pt) (gTup X.K 2 t)) (hp2 : ∀ t u, PG X (.Name x px) t → PGs X [.Name y py] u → PGs X [.Name x px, .Name y py] (gCons t u)) (hp3 : ∀ t, PG X (.Name y py) t → PGs X [.Name y py] (gCons t gNil)) :
    WG X n (.Tuple [.Name x px, .Name y py] kk pt) (.tup [d1, d2]) E k := by
  intro Z H σ F G v Q he r nd nz hk
  refine wpG_by (hp _ (hp2 _ _ (pg_name hN hi hx hf) (hp3 _ (pg_name hN hj hy hf2)))) ?_
  cases r with
  | tup hs rs =>
    cases rs with
    | cons r1 rs =>
      cases rs with
      | cons r2 rs =>
        cases rs
        rename_i v1 G1 v2 G2
        have ndr : (G2 ++ F).Nodup := (List.Sublist.append_right (by rw [List.append_nil]; exact List.sublist_append_right G1 G2) F).nodup nd
        have ndl : (G1 ++ F).Nodup := (List.Sublist.append_right (List.sublist_append_left G1 _) F).nodup nd
        obtain ⟨F1, h1, m1⟩ := he.asg r1 ndl (fun a ha => nz a (List.mem_append_left _ ha)) hE
        have n12 : ∀ a ∈ G2, a ∉ G1 := fun a ha hb => by
          have q := (List.nodup_append.mp (List.nodup_append.mp nd).1).2.2
          exact q a hb a (List.mem_append_left _ ha) rfl
        have ndr2 : (G2 ++ F1).Nodup := List.nodup_append.mpr ⟨(List.nodup_append.mp ndr).1, h1.nd, fun a ha b hb e => by
          subst e
          rcases m1 a hb with q | q
          · exact n12 a ha q
          · exact (List.nodup_append.mp ndr).2.2 a ha a q rfl⟩
        obtain ⟨F2, h2, m2⟩ := h1.asg r2 ndr2 (fun a ha => nz a (List.mem_append_right _ (List.mem_append_left _ ha))) (by rw [List.length_set]; exact hE2)
        refine ⟨_, _, rfl, hs, rfl, v1, [v2], rfl, v2, [], rfl, rfl, ?_⟩
        refine hk _ Z H _ F2 h ⟨h2, h2.nd, (fun a q => nomatch q), Stp.refl.sub fun a ha => ?_, (Pin.set hni).trans (Pin.set hnj)⟩
        rcases m2 a ha with q | q
        · exact List.mem_append_left _ (List.mem_append_right _ (List.mem_append_left _ q))
        · rcases m1 a q with z | z
          · exact List.mem_append_left _ (List.mem_append_left _ z)
          · exact List.mem_append_right _ z
end

/-! ### a def's promise over trees -/
structure Ct where
  α : Type
  pre : α → List D → Prop
  post : α → D → List D → Prop
/-- the first pin arguments come back changed, the others are given away -/
def toSp (K : PySem.W.Frag) (pin : Nat) (S : Ct) : Sp := fun vs H Q _ => ∃ Z ds F, Reps K Z H ds vs F ∧ F.Nodup ∧ (∀ a ∈ F, ¬ Z a) ∧ Zt K Z H ∧ ∃ a : S.α, S.pre a ds ∧ ∀ d ds', S.post a d ds' →
  ∀ v Z' H' G F', Reps K Z' H' ds' (vs.take pin) F' → Rep K Z' H' d v G → (G ++ F').Nodup → (∀ a ∈ G ++ F', ¬ Z' a) → Zt K Z' H' → Stp Z H F Z' H' (G ++ F') → Q v H'
section
variable {K : PySem.W.Frag} {Z Z1 Z2 Z' : Addr → Prop} {H H1 H2 H' : Hp} {F F1 F2 F' G G1 G2 G' R : List Addr} {σ σ' : Sl} {E E1 E2 E' : EnvT}
theorem EnvR.start (r : Reps K Z H ds vs F) (m : Nat) : EnvR K Z H (ds.map some ++ List.replicate m none) (vs.map some ++ List.replicate m none) F := by
  have base : ∀ m : Nat, EnvR K Z H (List.replicate m none) (List.replicate m none) [] := fun m => by
    induction m with
    | zero => exact .nil
    | succ m ih => exact .no ih
  revert vs F
  induction ds with
  | nil => intro vs F r; cases r; exact base m
  | cons d ds ih =>
    intro vs F r
    cases r with
    | cons r rs => exact .so r (ih rs)
theorem EnvR.back : ∀ {E : EnvT} {σ : Sl} {F : List Addr}, EnvR K Z H E σ F → ∀ (pin : Nat) (vs : List V) (ds' : List D), pin ≤ vs.length → (∀ i, i < pin → σ[i]? = (vs.map some)[i]?) → E.take pin = ds'.map some → ∃ F', Reps K Z H ds' (vs.take pin) F' ∧ F'.Sublist F
  | _, _, _, _, 0, vs, ds', _, _, e => by
    have z : ds' = [] := by
      cases ds' with
      | nil => rfl
      | cons d ds => simp at e
    subst z
    exact ⟨[], by rw [List.take_zero]; exact .nil, List.nil_sublist _⟩
  | _, _, _, .nil, pin + 1, vs, ds', hl, hs, e => by
    cases vs with
    | nil => simp at hl
    | cons v vs =>
      have q := hs 0 (Nat.succ_pos _)
      simp at q
  | _, _, _, .no r, pin + 1, vs, ds', hl, hs, e => by
    cases ds' with
    | nil => simp at e
    | cons d ds => simp at e
  | _, _, _, .so (v := w) r rs, pin + 1, vs, ds', hl, hs, e => by
    cases vs with
    | nil => simp at hl
    | cons v vs =>
      have q := hs 0 (Nat.succ_pos _)
      have ew : w = v := by simpa using q
      subst ew
      cases ds' with
      | nil => simp at e
      | cons d ds =>
        rw [List.take_succ_cons, List.map_cons] at e
        injection e with e1 e2
        cases e1
        obtain ⟨F', h1, h2⟩ := EnvR.back rs pin vs ds (by simpa using hl) (fun i hi => by simpa using hs (i + 1) (by omega)) e2
        exact ⟨_, .cons r h1, List.Sublist.append_left h2 _⟩
end
section
variable {P : Program} {w : World} {K : PySem.W.Frag} {mg : Str → Option Value} {base : Heap}
/-- a def keeps its promise, from its body -/
theorem fn_ok {x qual : Str} {st : Stmt} {dvs : List V} {kws : List (Str × V)} {f : Addr} {fd : FuncData} {N ps : List Str} {k pin : Nat} {S : Ct} (F : FunD K x qual (defArgs st) (defBody st) (defScope st) dvs kws f fd) (sc : FnScope N ps (defScope st))
    (hlen : ∀ a ds, S.pre a ds → ds.length = ps.length) (hpin : pin ≤ ps.length)
    (body : ∀ (cdv : Value) (A : Around) (outer : List Env) (s : Shared) (H : Hp) (E : XK), Room k (A.deeper (envOfC qual (defScope st) s.heap.objs.size f cdv)) → ∀ (a : S.α) (ds : List D), S.pre a ds →
      (let X : Cx := (cxOf CX0 P w K mg base N qual (defScope st) f cdv A outer s H E).nox
      WSs X (List.range pin) (defBody st) (ds.map some ++ List.replicate (N.length - ps.length) none)
        { nx := fun E' => ∃ ds', E'.take pin = ds'.map some ∧ S.post a .non ds', rt := fun d E' => ∃ ds', E'.take pin = ds'.map some ∧ S.post a d ds' })) : FnOk P w K mg base CX0 (k + 1) f fd ps (toSp K pin S) := by
  have ln : ∀ vs H Q E, toSp K pin S vs H Q E → vs.length = ps.length := fun vs H Q E ⟨Z, ds, F, r, _, _, _, a, pa, _⟩ => by rw [← r.len]; exact hlen a ds pa
  refine F.ok sc ln fun cdv A outer s H vs Q E hr hsp => ?_
  have hl := ln _ _ _ _ hsp
  obtain ⟨Z, ds, F0, r, nd, nz, zt, a, pa, hq⟩ := hsp
  refine ⟨_, PSs.nox pss_w, ?_⟩
  have he : EnvS K Z H (ds.map some ++ List.replicate (N.length - ps.length) none) (start N vs) F0 := ⟨by
    have q := EnvR.start r (N.length - ps.length)
    unfold L2.start
    rw [hl]
    exact q, nd, nz, zt⟩
  have getv : ∀ {σ' : Sl}, Pin (List.range pin) (start N vs) σ' → ∀ i, i < pin → σ'[i]? = (vs.map some)[i]? := fun hpn i hi => by
    rw [hpn i (List.mem_range.mpr hi)]
    unfold L2.start
    rw [List.getElem?_append_left]
    rw [List.length_map, hl]
    omega
  refine body cdv A outer s H E hr a ds pa Z H (start N vs) F0 _ he ⟨fun E' Z' H' σ' F' ⟨ds', e, po⟩ f => ?_, fun d v E' Z' H' σ' F' G ⟨ds', e, po⟩ f rv => ?_, fun _ _ _ _ _ q _ => q.elim, fun _ _ _ _ _ q _ => q.elim⟩
  · obtain ⟨F2, r2, s2⟩ := f.env.r.back pin vs ds' (by omega) (getv f.pin) e
    exact hq .non ds' po .non Z' H' [] F2 r2 .non (s2.nodup f.env.nd) (fun a ha => f.env.nz a (s2.subset ha)) f.env.zt (f.st.sub fun x hx => s2.subset hx)
  · obtain ⟨F2, r2, s2⟩ := f.env.r.back pin vs ds' (by omega) (getv f.pin) e
    refine hq d ds' po v Z' H' G F2 r2 rv ((List.Sublist.append_left s2 G).nodup f.nd) (fun a ha => ?_) f.env.zt (f.st.sub fun x hx => (List.Sublist.append_left s2 G).subset hx)
    rcases List.mem_append.mp ha with q | q
    · exact f.nz a q
    · exact f.env.nz a (s2.subset q)
end

/-! ### calls -/
inductive Gets (E : EnvT) : List Opd → List D → Prop
  | nil : Gets E [] []
  | val {d : D} {os : List Opd} {ds : List D} : Gets E os ds → Gets E (.val d :: os) (d :: ds)
  | bor {i : Nat} {d : D} {os : List Opd} {ds : List D} : E[i]? = some (some d) → Imm d → Gets E os ds → Gets E (.bor i :: os) (d :: ds)
section
variable {K : PySem.W.Frag} {Z : Addr → Prop} {H : Hp} {F : List Addr} {σ : Sl} {E : EnvT}
theorem Gets.reps (he : EnvS K Z H E σ F) : ∀ {os : List Opd} {ds : List D} {vs : List V} {G : List Addr}, Gets E os ds → OpdRs K Z H σ os vs G → ∃ G', Reps K Z H ds vs G' ∧ G'.Sublist G
  | _, _, _, _, .nil, .nil => ⟨_, .nil, List.Sublist.refl _⟩
  | _, _, _, _, .val g, .cons r rs => by
    obtain ⟨G', h1, h2⟩ := Gets.reps he g rs
    exact ⟨_, .cons r h1, List.Sublist.append_left h2 _⟩
  | _, _, _, _, .bor (i := i) (d := d) hE im g, .cons (v := v) r rs => by
    obtain ⟨G', h1, h2⟩ := Gets.reps he g rs
    obtain ⟨G1, r1, _⟩ := OpdR.use (o := .bor i) he r (d := d) (by show E[i]?.join = some d; rw [hE]; rfl)
    exact ⟨_, .cons (r1.nils im) h1, h2.trans (List.sublist_append_right _ _)⟩
end
theorem Gets.of {E : EnvT} : ∀ {os : List Opd} {ds : List D}, valsOf os = some ds → Gets E os ds
  | [], ds, h => by
    rw [valsOf] at h
    cases h
    exact .nil
  | .val d :: os, ds, h => by
    rw [valsOf] at h
    cases e : valsOf os with
    | none => rw [e] at h; cases h
    | some es =>
      rw [e] at h
      cases h
      exact .val (Gets.of e)
  | .bor _ :: _, ds, h => by
    rw [valsOf] at h
    cases h
section
variable {X : Cx} {E : EnvT} {k : Opd → EnvT → Prop} {f : Expr} {es : List Expr} {S : Ct} {XE : XK}
theorem wo_call0 (hp : PE X f (tCall (toSp X.K 0 S) [] XE (wpA X es))) (h : WA X es E fun os E1 => ∃ ds, valsOf os = some ds ∧ ∃ a, S.pre a ds ∧ ∀ d, S.post a d [] → k (.val d) E1) : WO X f E k := by
  intro Z H σ F Q he hk
  refine wpE_by hp (h Z H σ F _ he fun os E1 Z1 H1 F1 G vs ⟨ds, g0, a, pa, hq⟩ f1 rs => ?_)
  have g := Gets.of (E := E1) g0
  obtain ⟨G', r, sub⟩ := g.reps f1.env rs
  have f2 := f1.sub sub
  rw [List.append_nil]
  refine ⟨Z1, ds, G', r, (List.nodup_append.mp f2.nd).1, f2.nz, f1.env.zt, a, pa, fun d ds' po v Z' H' G2 F2 r2 rv nd nz zt st => ?_⟩
  rw [List.take_zero] at r2
  cases r2
  have st0 : Stp Z1 H1 G' Z' H' G2 := st.sub fun x hx => List.mem_append_left _ hx
  have n2 : G2.Nodup := (List.nodup_append.mp nd).1
  have ap := st0.apart (G := F1) (F1 := G') (F2 := G2) f1.env.r.mem (by
    refine List.nodup_append.mpr ⟨f1.env.nd, (List.nodup_append.mp f2.nd).1, fun x hx y hy e => ?_⟩
    subst e
    exact (List.nodup_append.mp f2.nd).2.2 x hy x hx rfl) n2
  have nzF := st0.nz f1.env.r.mem ap.2 f1.env.nz
  refine hk (.val d) E1 Z' H' F1 G2 v (hq d po) ⟨⟨f1.env.r.step st0 ap.2, f1.env.nd, nzF, zt⟩, ?_, fun x hx => nz x (List.mem_append_left _ hx), ?_⟩ rv
  · refine List.nodup_append.mpr ⟨n2, f1.env.nd, fun x hx y hy e => ?_⟩
    subst e
    exact (List.nodup_append.mp ap.1).2.2 x hy x hx rfl
  · exact f2.st.trans (st0.more (fun x hx => List.mem_append_left _ hx) fun x hx => (List.mem_append.mp hx).imp_right fun z => List.mem_append_right _ z)
/-- the first argument an owned thing in a slot -/
theorem wo_call1 (hp : PE X f (tCall (toSp X.K 1 S) [] XE (wpA X es))) (h : WA X es E fun os E1 => ∃ i os' d0 ds, os = .bor i :: os' ∧ E1[i]? = some (some d0) ∧ valsOf os' = some ds ∧ ∃ a, S.pre a (d0 :: ds) ∧ ∀ d d0', S.post a d [d0'] → k (.val d) (E1.set i (some d0'))) : WO X f E k := by
  intro Z H σ F Q he hk
  refine wpE_by hp (h Z H σ F _ he fun os E1 Z1 H1 F1 G vs ⟨i, os', d0, ds, eo, hE, g0, a, pa, hq⟩ f1 rs => ?_)
  subst eo
  have g := Gets.of (E := E1) g0
  cases rs with
  | cons r0 rs =>
    rename_i v0 G0' vs' Gs
    obtain ⟨hv, eG⟩ := r0
    subst eG
    rw [List.nil_append] at f1
    obtain ⟨Gs', r, sub⟩ := g.reps f1.env rs
    have f2 := f1.sub sub
    obtain ⟨v0', G0, R, hv', rp, rR, pm⟩ := f1.env.r.get hE
    rw [hv] at hv'
    cases hv'
    rw [List.append_nil]
    have nF : (G0 ++ R).Nodup := pm.nodup_iff.mp f1.env.nd
    have nA : (G0 ++ Gs').Nodup := by
      refine List.nodup_append.mpr ⟨(List.nodup_append.mp nF).1, (List.nodup_append.mp f2.nd).1, fun x hx y hy e => ?_⟩
      subst e
      exact (List.nodup_append.mp f2.nd).2.2 x hy x (pm.mem_iff.mpr (List.mem_append_left _ hx)) rfl
    have nzA : ∀ x ∈ G0 ++ Gs', ¬ Z1 x := fun x hx => by
      rcases List.mem_append.mp hx with q | q
      · exact f1.env.nz x (pm.mem_iff.mpr (List.mem_append_left _ q))
      · exact f2.nz x q
    refine ⟨Z1, d0 :: ds, G0 ++ Gs', .cons rp r, nA, nzA, f1.env.zt, a, pa, fun d ds' po v Z' H' G2 F2 r2 rv nd nz zt st => ?_⟩
    have et : (v0 :: vs').take 1 = [v0] := rfl
    rw [et] at r2
    cases r2 with
    | cons r2 rn =>
      cases rn
      rename_i d0' Fd
      rw [List.append_nil] at nd nz st
      have nR : ∀ x ∈ R, x ∉ G0 ++ Gs' := fun x hx hm => by
        rcases List.mem_append.mp hm with q | q
        · exact (List.nodup_append.mp nF).2.2 x q x hx rfl
        · exact (List.nodup_append.mp f2.nd).2.2 x q x (pm.mem_iff.mpr (List.mem_append_right _ hx)) rfl
      have rR' := rR.step st nR
      obtain ⟨F3, e3, p3⟩ := rR'.put (i := i) (d := d0') (v := v0) (G := Fd) (by
        obtain ⟨hl, _⟩ := List.getElem?_eq_some_iff.mp hE
        simp [hl]) hv r2
      rw [List.set_set] at e3
      have apR : ∀ x ∈ R, x ∉ G2 ++ Fd := fun x hx hm => by
        rcases st.f2 x hm with q | q
        · exact nR x hx q
        · obtain ⟨o, e, n⟩ := rR.mem x hx
          exact q o e n
      have nd3 : (G2 ++ (Fd ++ R)).Nodup := by
        rw [← List.append_assoc]
        refine List.nodup_append.mpr ⟨nd, (List.nodup_append.mp nF).2.1, fun x hx y hy e => ?_⟩
        subst e
        exact apR x hy hx
      have mem3 : ∀ x ∈ F3, x ∈ Fd ∨ x ∈ R := fun x hx => List.mem_append.mp (p3.mem_iff.mp hx)
      have nzR := st.nz rR.mem nR fun x hx => f1.env.nz x (pm.mem_iff.mpr (List.mem_append_right _ hx))
      have hsub : ∀ x ∈ G0 ++ Gs', x ∈ Gs' ++ F1 := fun x hx => by
        rcases List.mem_append.mp hx with q | q
        · exact List.mem_append_right _ (pm.mem_iff.mpr (List.mem_append_left _ q))
        · exact List.mem_append_left _ q
      refine hk (.val d) _ Z' H' F3 G2 v (hq d d0' po) ⟨⟨e3, p3.nodup_iff.mpr (List.nodup_append.mp nd3).2.1, fun x hx => (mem3 x hx).elim (fun q => nz x (List.mem_append_right _ q)) (nzR x), zt⟩,
        (List.Perm.append_left G2 p3).nodup_iff.mpr nd3, fun x hx => nz x (List.mem_append_left _ hx), ?_⟩ rv
      refine f2.st.trans (st.more hsub fun x hx => ?_)
      rcases List.mem_append.mp hx with q | q
      · exact .inl (List.mem_append_left _ q)
      · rcases mem3 x q with z | z
        · exact .inl (List.mem_append_right _ z)
        · exact .inr (List.mem_append_right _ (pm.mem_iff.mpr (List.mem_append_right _ z)))
end
end DL

namespace DL
open PySem PySem.Spec L2
variable [LamT]

/-! ### slots forgotten -/
def wipeE (E : EnvT) : List Nat → EnvT
  | [] => E
  | i :: is => (wipeE E is).set i none
theorem wipe_get (σ : Sl) : ∀ (vs : List Nat) (j : Nat), (wipe σ vs)[j]? = if j ∈ vs ∧ j < σ.length then some none else σ[j]?
  | [], j => by simp [wipe]
  | v :: vs, j => by
    rw [wipe, List.getElem?_set, wipe_length, wipe_get σ vs j]
    by_cases h : v = j
    · subst h
      by_cases hl : v < σ.length
      · simp [hl]
      · have z : σ[v]? = none := List.getElem?_eq_none_iff.mpr (by omega)
        simp [hl, z]
    · have h' : ¬ j = v := fun e => h e.symm
      simp [h, h']
theorem wipe_idem (σ : Sl) (vs : List Nat) : wipe (wipe σ vs) vs = wipe σ vs := by
  apply List.ext_getElem?
  intro j
  rw [wipe_get, wipe_length, wipe_get]
  split <;> rfl
theorem wipe_set {σ : Sl} {i : Nat} {o : Option V} {vs : List Nat} (h : i ∈ vs) : wipe (σ.set i o) vs = wipe σ vs := by
  apply List.ext_getElem?
  intro j
  rw [wipe_get, wipe_get, List.length_set]
  by_cases hj : j ∈ vs ∧ j < σ.length
  · rw [if_pos hj, if_pos hj]
  · rw [if_neg hj, if_neg hj, List.getElem?_set]
    by_cases e : i = j
    · subst e
      have hl : ¬ i < σ.length := fun q => hj ⟨h, q⟩
      have z : σ[i]? = none := List.getElem?_eq_none_iff.mpr (by omega)
      simp [hl, z]
    · simp [e]
section
variable {K : PySem.W.Frag} {Z Z1 Z2 Z' : Addr → Prop} {H H1 H2 H' : Hp} {F F1 F2 F' G G1 G2 G' R : List Addr} {σ σ' : Sl} {E E1 E2 E' : EnvT}
theorem wipeE_length (E : EnvT) : ∀ vs : List Nat, (wipeE E vs).length = E.length
  | [] => rfl
  | v :: vs => by rw [wipeE, List.length_set, wipeE_length E vs]
theorem wipeE_get (E : EnvT) : ∀ (vs : List Nat) (j : Nat), (wipeE E vs)[j]? = if j ∈ vs ∧ j < E.length then some none else E[j]?
  | [], j => by simp [wipeE]
  | v :: vs, j => by
    rw [wipeE, List.getElem?_set, wipeE_length, wipeE_get E vs j]
    by_cases h : v = j
    · subst h
      by_cases hl : v < E.length
      · simp [hl]
      · have z : E[v]? = none := List.getElem?_eq_none_iff.mpr (by omega)
        simp [hl, z]
    · have h' : ¬ j = v := fun e => h e.symm
      simp [h, h']
theorem EnvR.wipe (r : EnvR K Z H E σ F) : ∀ vs : List Nat, ∃ F2, EnvR K Z H (wipeE E vs) (L2.wipe σ vs) F2 ∧ F2.Sublist F
  | [] => ⟨F, r, List.Sublist.refl _⟩
  | v :: vs => by
    obtain ⟨F2, h1, h2⟩ := EnvR.wipe r vs
    obtain ⟨F3, h3, h4⟩ := h1.drop v none
    exact ⟨F3, h3, h4.trans h2⟩
/-- other values in slots that nothing is known of -/
theorem EnvR.other : ∀ {E : EnvT} {σ : Sl} {F : List Addr}, EnvR K Z H E σ F → ∀ σ' : Sl, σ'.length = σ.length → (∀ (i : Nat) (d : D), E[i]? = some (some d) → σ'[i]? = σ[i]?) → EnvR K Z H E σ' F
  | _, _, _, .nil, σ', hl, _ => by
    have e : σ' = [] := List.eq_nil_of_length_eq_zero hl
    rw [e]
    exact .nil
  | _, _, _, .no r, σ', hl, h => by
    cases σ' with
    | nil => simp at hl
    | cons o σ' => exact .no (EnvR.other r σ' (by simpa using hl) fun i d e => by simpa using h (i + 1) d (by simpa using e))
  | _, _, _, .so (v := v) r rs, σ', hl, h => by
    cases σ' with
    | nil => simp at hl
    | cons o σ' =>
      have e0 : o = some v := by simpa using h 0 _ rfl
      rw [e0]
      exact .so r (EnvR.other rs σ' (by simpa using hl) fun i d e => by simpa using h (i + 1) d (by simpa using e))
theorem EnvS.wipe (e : EnvS K Z H E σ F) (vs : List Nat) : ∃ F2, EnvS K Z H (wipeE E vs) (L2.wipe σ vs) F2 ∧ F2.Sublist F := by
  obtain ⟨F2, h1, h2⟩ := e.r.wipe vs
  exact ⟨F2, ⟨h1, h2.nodup e.nd, fun a ha => e.nz a (h2.subset ha), e.zt⟩, h2⟩
theorem EnvS.unwipe {E0 : EnvT} {vs : List Nat} (e : EnvS K Z H (wipeE E0 vs) (L2.wipe σ vs) F) : EnvS K Z H (wipeE E0 vs) σ F :=
  ⟨e.r.other σ (wipe_length σ vs).symm fun i d h => by
    have hl := e.r.len
    rw [wipeE_length, wipe_length] at hl
    rw [wipeE_get] at h
    rw [wipe_get]
    by_cases q : i ∈ vs ∧ i < E0.length
    · rw [if_pos q] at h
      cases h
    · rw [if_neg (by rw [← hl]; exact q)], e.nd, e.nz, e.zt⟩
end

/-! ### a comprehension's target -/
/-- d is bound to names that are forgotten behind the turn -/
def TgB (K : PySem.W.Frag) (g : TG) (vs : List Nat) (d : D) (E E2 : EnvT) : Prop := ∀ (Z : Addr → Prop) (H : Hp) (σ : Sl) (v : V) (F : List Addr) (Q : Sl → Hp → Prop), EnvS K Z H E σ F → Rep K Z H d v [] →
  (∀ σ2 F2, EnvS K Z H E2 σ2 F2 → (∀ a ∈ F2, a ∈ F) → wipe σ2 vs = wipe σ vs → Q σ2 H) → g v σ H Q
theorem tgb_name {K : PySem.W.Frag} {i : Nat} {vs : List Nat} {d : D} {E : EnvT} (hi : i ∈ vs) (hE : i < E.length) : TgB K (gName i) vs d E (E.set i (some d)) := by
  intro Z H σ v F Q he r hq
  obtain ⟨F', h1, h2⟩ := he.asg (i := i) r he.nd (fun a h => nomatch h) hE
  exact hq _ F' h1 (fun a ha => (h2 a ha).elim (fun q => nomatch q) id) (wipe_set hi)
theorem tgb_pair {K : PySem.W.Frag} {i j : Nat} {vs : List Nat} {d1 d2 : D} {E : EnvT} (hi : i ∈ vs) (hj : j ∈ vs) (hE : i < E.length) (hE2 : j < E.length) : TgB K (gTup K 2 (gCons (gName i) (gCons (gName j) gNil))) vs (.tup [d1, d2]) E ((E.set i (some d1)).set j (some d2)) := by
  intro Z H σ v F Q he r hq
  generalize hG : ([] : List Addr) = G0 at r
  cases r with
  | tup hs rs =>
    cases rs with
    | cons r1 rs =>
      cases rs with
      | cons r2 rs =>
        cases rs
        rename_i v1 G1 v2 G2
        have e1 : G1 = [] := (List.append_eq_nil_iff.mp hG.symm).1
        have e2 : G2 = [] := (List.append_eq_nil_iff.mp (List.append_eq_nil_iff.mp hG.symm).2).1
        subst e1
        subst e2
        obtain ⟨F1, h1, m1⟩ := he.asg (i := i) r1 he.nd (fun a h => nomatch h) hE
        obtain ⟨F2, h2, m2⟩ := h1.asg (i := j) r2 h1.nd (fun a h => nomatch h) (by rw [List.length_set]; exact hE2)
        refine ⟨_, _, rfl, hs, rfl, v1, [v2], rfl, v2, [], rfl, rfl, hq _ F2 h2 (fun a ha => ?_) ?_⟩
        · exact (m2 a ha).elim (fun q => nomatch q) fun q => (m1 a q).elim (fun z => nomatch z) id
        · rw [wipe_set hj, wipe_set hi]

/-! ### tests of a comprehension -/
def wpTs (X : Cx) (ifs : List Expr) (σ : Sl) (H : Hp) (Q : Bool → Hp → Prop) : Prop := ∀ (pins : List (Addr × Obj)) (s : Shared), Inv X pins σ H s →
  wpAny (model X.prog X.w) X.A (forIn ifs true fun c r => if r = true then do let ok ← isTrue c X.env (eval c X.env); pure (ForInStep.yield ok) else pure (ForInStep.yield r)) (TP X pins σ Q) X.xe s
def WIf (X : Cx) (ifs : List Expr) (E : EnvT) (k : Bool → EnvT → Prop) : Prop := ∀ (Z : Addr → Prop) (H : Hp) (σ : Sl) (F : List Addr) (Q : Bool → Hp → Prop), EnvS X.K Z H E σ F →
  (∀ (b : Bool) (E' : EnvT) (Z' : Addr → Prop) (H' : Hp) (F' : List Addr), k b E' → Fin X.K Z H σ F E' Z' H' F' [] → Q b H') → wpTs X ifs σ H Q
section
variable {X : Cx} {E : EnvT} {c : Expr} {k : Bool → EnvT → Prop}
theorem wif_nil (h : k true E) : WIf X [] E k := fun Z H σ F Q he hk pins s I => pts_nil.run pins s σ H Q I (hk true E Z H F h (Fin.refl he))
theorem wif_one (h : WT X c E k) : WIf X [c] E k := fun Z H σ F Q he hk pins s I => (pts_one pt_w).run pins s σ H Q I (h Z H σ F Q he hk)
end

/-! ### [elt for tg in iter if ..] -/
section
variable {X : Cx} {elt tg iter : Expr} {ifs : List Expr} {scope : Scope} {own : List (Str × Nat)} {pos : Pos} {E : EnvT} {k : Opd → EnvT → Prop} {g : TG}
theorem WI.mono {X : Cx} {tg iter : Expr} {E : EnvT} {k k' : List (Nat × D) → Nat → (Nat → D) → EnvT → Prop} (h : WI X tg iter E k) (m : ∀ w mm src E', k w mm src E' → k' w mm src E') : WI X tg iter E k' := fun Z H σ F R he hk => h Z H σ F R he fun w mm src E' Z' H' F' J Gp G q => hk w mm src E' Z' H' F' J Gp G (m w mm src E' q)
abbrev lcT (X : Cx) (elt tg iter : Expr) (ifs : List Expr) (scope : Scope) (g : TG) (vs : List Nat) : TE := tLc (wpI X tg iter) g (fun σ' H' Q' => ∀ (s : Shared) (H0 : Hp) (C : Addr) (cl : List (Str × Addr)) (fp : List Addr), wpTs (X.blk s H0 scope (compEnvC scope cl C X.env) fp) ifs σ' H' Q')
  (fun σ' H' Q' => ∀ (s : Shared) (H0 : Hp) (C : Addr) (cl : List (Str × Addr)) (fp : List Addr), wpE (X.blk s H0 scope (compEnvC scope cl C X.env) fp) elt σ' H' Q') vs
theorem lc_tree
    (h : WI X tg iter E fun w m src E1 => ∃ I : Nat → List D → EnvT → Prop, I 0 [] (wipeE E1 (own.map (·.2))) ∧ (∀ j acc E', j ≤ m → I j acc E' → ∀ p ∈ w, E'[p.1]? = some (some p.2)) ∧
      (∀ j acc E', j < m → I j acc E' → ∃ E2, TgB X.K g (own.map (·.2)) (src j) E' E2 ∧ ∀ (s : Shared) (H : Hp) (C : Addr) (cl : List (Str × Addr)) (fp : List Addr),
        WIf (X.blk s H scope (compEnvC scope cl C X.env) fp) ifs E2 fun b E3 => (b = true → ∀ (s : Shared) (H : Hp) (C : Addr) (cl : List (Str × Addr)) (fp : List Addr), WE (X.blk s H scope (compEnvC scope cl C X.env) fp) elt E3 fun y E4 => acc.length < 100000 ∧ I (j + 1) (acc ++ [y]) (wipeE E4 (own.map (·.2)))) ∧ (b = false → I (j + 1) acc (wipeE E3 (own.map (·.2))))) ∧
      ∀ acc E', I m acc E' → k (.val (.lst acc)) E') : ∀ (Z : Addr → Prop) (H : Hp) (σ : Sl) (F : List Addr) (Q : VK), EnvS X.K Z H E σ F →
  (∀ (o : Opd) (E' : EnvT) (Z' : Addr → Prop) (H' : Hp) (F' G : List Addr) (v : V), k o E' → Fin X.K Z H σ F E' Z' H' F' G → OpdR X.K Z' H' σ o v G → Q v H') → lcT X elt tg iter ifs scope g (own.map (·.2)) σ H Q := by
  intro Z H σ F Q he hk
  generalize hvs : own.map (·.2) = vs at h ⊢
  refine h Z H σ F _ he fun w m src E1 Z1 H1 F1 J Gp G ⟨I, i0, iw, step, fin⟩ f1 sok g1 stay => ?_
  have f10 := f1.nil
  intro Dd hD
  obtain ⟨Fw, ew, subw⟩ := f10.env.wipe vs
  refine ⟨fun i l H' => l = m - i ∧ i ≤ m ∧ ∃ acc E0 Z' F' Ga ws, I i acc (wipeE E0 vs) ∧ EnvS X.K Z' H' (wipeE E0 vs) (wipe σ vs) F' ∧ H' Dd = some (.lst ws) ∧ Reps X.K Z' H' acc ws Ga ∧ ((Dd :: Ga) ++ F').Nodup ∧ (∀ a ∈ Dd :: Ga, ¬ Z' a) ∧ Stp Z1 H1 F1 Z' H' ((Dd :: Ga) ++ F'), ⟨m, by simp, Nat.zero_le _, ?_⟩, ?_⟩
  · have gr := Grow.new (H := H1) (p := Dd) (o := .lst []) hD
    have dF : Dd ∉ Fw := fun q => by
      obtain ⟨o, e, _⟩ := ew.r.mem Dd q
      rw [hD] at e
      cases e
    refine ⟨[], E1, Z1, Fw, [], [], i0, ⟨ew.r.kp gr.kp fun a _ o _ e => gr.gr a o e, ew.nd, ew.nz, ew.zt.gr gr⟩, upd_same, .nil, List.nodup_cons.mpr ⟨by simpa using dF, by simpa using ew.nd⟩, fun a ha z => ?_, ?_⟩
    · rw [List.mem_singleton.mp ha] at z
      obtain ⟨o, e, _⟩ := f10.env.zt.th Dd z
      rw [hD] at e
      cases e
    · refine (gr.st (Z := Z1) (F := F1)).sub fun x hx => ?_
      rcases List.mem_cons.mp hx with q | q
      · rw [q]; exact List.mem_append_left _ (by simp)
      · exact List.mem_append_right _ (subw.subset (by simpa using q))
  · rintro i l H2 ⟨rfl, hi, acc, E0, Z2, F2, Ga, ws, i2, e2, hD2, ra, nd2, nz2, st2⟩
    have gp : Gp Z2 H2 := stay (wipeE E0 vs) Z2 H2 σ F2 (Dd :: Ga) ⟨e2.unwipe, nd2, nz2, st2, Pin.refl⟩ (iw i acc _ hi i2)
    by_cases hlt : i < m
    · refine .inr ⟨sok.goes Z2 i H2 hlt gp, fun H' => ∃ acc E0 Z' F' Ga ws, I (i + 1) acc (wipeE E0 vs) ∧ EnvS X.K Z' H' (wipeE E0 vs) (wipe σ vs) F' ∧ H' Dd = some (.lst ws) ∧ Reps X.K Z' H' acc ws Ga ∧ ((Dd :: Ga) ++ F').Nodup ∧ (∀ a ∈ Dd :: Ga, ¬ Z' a) ∧ Stp Z1 H1 F1 Z' H' ((Dd :: Ga) ++ F'), fun H' q => ⟨m - (i + 1), by omega, rfl, hlt, q⟩, fun x H3 y => ?_⟩
      obtain ⟨rx, gr⟩ := sok.gives Z2 i H2 x H3 hlt gp y
      have e3 : EnvS X.K Z2 H3 (wipeE E0 vs) (wipe σ vs) F2 := ⟨e2.r.kp gr.kp fun a _ o _ e => gr.gr a o e, e2.nd, e2.nz, e2.zt.gr gr⟩
      have hD3 : H3 Dd = some (.lst ws) := gr.gr _ _ hD2
      have ra3 := ra.grow gr
      have st3 : Stp Z1 H1 F1 Z2 H3 ((Dd :: Ga) ++ F2) := st2.trans gr.st
      have memA : ∀ a ∈ Dd :: Ga, ∃ u, H3 a = some u ∧ NTb u := fun a ha => by
        rcases List.mem_cons.mp ha with q | q
        · exact ⟨_, by rw [q]; exact hD3, ntb_lst⟩
        · exact ra3.mem a q
      obtain ⟨E4, tb, run⟩ := step i acc _ hlt i2
      refine tb Z2 H3 (wipe σ vs) x F2 _ e3 rx fun σ4 F4 e4 sub4 hw4 => ?_
      refine ⟨by rw [hw4, wipe_idem], ?_⟩
      have nd4 : ((Dd :: Ga) ++ F4).Nodup := List.nodup_append.mpr ⟨(List.nodup_append.mp nd2).1, e4.nd, fun a ha b hb q => (List.nodup_append.mp nd2).2.2 a ha b (sub4 b hb) q⟩
      have st4 : Stp Z1 H1 F1 Z2 H3 ((Dd :: Ga) ++ F4) := st3.sub fun a ha => by
        rcases List.mem_append.mp ha with q | q
        · exact List.mem_append_left _ q
        · exact List.mem_append_right _ (sub4 a q)
      intro s H0 C cl fp
      refine run s H0 C cl fp Z2 H3 σ4 F4 _ e4 fun b E5 Z5 H5 F5 q5 f5 => ?_
      have off5 := f5.st.apart (G := Dd :: Ga) (F1 := F4) (F2 := F5) memA nd4 f5.nd
      have nz5 := f5.st.nz memA off5.2 nz2
      have hD5 : H5 Dd = some (.lst ws) := f5.st.fr _ _ hD3 (off5.2 Dd List.mem_cons_self) ntb_lst
      have ra5 := ra3.step f5.st fun a ha => off5.2 a (List.mem_cons_of_mem _ ha)
      have st5 : Stp Z1 H1 F1 Z5 H5 ((Dd :: Ga) ++ F5) := st4.push f5.st
      cases b with
      | false =>
        rw [if_neg Bool.false_ne_true]
        obtain ⟨F6, e6, sub6⟩ := f5.env.wipe vs
        have ew : wipe σ4 vs = wipe σ vs := by rw [hw4, wipe_idem]
        rw [ew] at e6
        exact ⟨acc, E5, Z5, F6, Ga, ws, q5.2 rfl, e6, hD5, ra5, (List.Sublist.append_left sub6 _).nodup off5.1, nz5, st5.sub fun a ha => (List.Sublist.append_left sub6 _).subset ha⟩
      | true =>
        rw [if_pos rfl]
        intro s' H0' C' cl' fp'
        refine q5.1 rfl s' H0' C' cl' fp' Z5 H5 σ4 F5 _ f5.env fun o E6 Z6 H6 F6 Gy y6 ⟨dy, eo, hacc, iy⟩ f6 r6 => ?_
        subst eo
        have ry : Rep X.K Z6 H6 dy y6 Gy := r6
        have off6 := f6.st.apart (G := Dd :: Ga) (F1 := F5) (F2 := Gy ++ F6) (fun a ha => by
          rcases List.mem_cons.mp ha with q | q
          · exact ⟨_, by rw [q]; exact hD5, ntb_lst⟩
          · exact ra5.mem a q) off5.1 f6.nd
        have nz6 := f6.st.nz (fun a ha => by
          rcases List.mem_cons.mp ha with q | q
          · exact ⟨_, by rw [q]; exact hD5, ntb_lst⟩
          · exact ra5.mem a q) off6.2 nz5
        have hD6 : H6 Dd = some (.lst ws) := f6.st.fr _ _ hD5 (off6.2 Dd List.mem_cons_self) ntb_lst
        have ra6 := ra5.step f6.st fun a ha => off6.2 a (List.mem_cons_of_mem _ ha)
        have st6 : Stp Z1 H1 F1 Z6 H6 ((Dd :: Ga) ++ (Gy ++ F6)) := st5.push f6.st
        have hlen := ra6.len
        refine ⟨ws, hD6, Nat.lt_of_lt_of_le (by omega) (by decide : 100000 ≤ sizeLine), ?_⟩
        have su : Stp Z6 H6 [Dd] Z6 (upd H6 Dd (.lst (ws ++ [y6]))) [Dd] := Stp.upd (by simp) (nz6 Dd List.mem_cons_self) (lst_nt hD6)
        have ndall := off6.1
        have notD : ∀ a ∈ Ga ++ (Gy ++ F6), a ∉ [Dd] := fun a ha hm => by
          rw [List.mem_singleton.mp hm] at ha
          have q : (Dd :: (Ga ++ (Gy ++ F6))).Nodup := ndall
          exact (List.nodup_cons.mp q).1 ha
        obtain ⟨F7, e7, sub7⟩ := f6.env.wipe vs
        have ew : wipe σ4 vs = wipe σ vs := by rw [hw4, wipe_idem]
        rw [ew] at e7
        have nd7 : ((Dd :: (Ga ++ Gy)) ++ F7).Nodup := by
          have q : ((Dd :: Ga) ++ (Gy ++ F7)).Nodup := (List.Sublist.append_left (List.Sublist.append_left sub7 Gy) (Dd :: Ga)).nodup ndall
          rw [← List.append_assoc] at q
          exact q
        refine ⟨acc ++ [dy], E6, Z6, F7, Ga ++ Gy, ws ++ [y6], iy, ?_, upd_same, ?_, nd7, fun a ha => ?_, ?_⟩
        · refine ⟨e7.r.step su fun a ha => notD a (List.mem_append_right _ (List.mem_append_right _ (sub7.subset ha))), e7.nd, e7.nz, e7.zt.stp su⟩
        · exact (ra6.step su fun a ha => notD a (List.mem_append_left _ ha)).app (Reps.one (ry.step su fun a ha => notD a (List.mem_append_right _ (List.mem_append_left _ ha))))
        · rcases List.mem_cons.mp ha with q | q
          · rw [q]; exact nz6 Dd List.mem_cons_self
          · rcases List.mem_append.mp q with z | z
            · exact nz6 a (List.mem_cons_of_mem _ z)
            · exact f6.nz a z
        · refine st6.trans (su.more (fun a ha => by rw [List.mem_singleton.mp ha]; exact List.mem_append_left _ List.mem_cons_self) fun a ha => ?_)
          rcases List.mem_append.mp ha with q | q
          · rcases List.mem_cons.mp q with z | z
            · exact .inl (by rw [z]; simp)
            · rcases List.mem_append.mp z with y | y
              · exact .inr (List.mem_append_left _ (List.mem_cons_of_mem _ y))
              · exact .inr (List.mem_append_right _ (List.mem_append_left _ y))
          · exact .inr (List.mem_append_right _ (List.mem_append_right _ (sub7.subset q)))
    · have e : i = m := by omega
      subst e
      refine .inl ⟨sok.stops Z2 H2 gp, ?_⟩
      refine hk _ _ Z2 H2 F2 (Dd :: Ga) _ (fin acc _ i2) ⟨e2.unwipe, nd2, nz2, f10.st.trans st2⟩ (.lst hD2 ra)

theorem wo_lc (hc : X.calm = true) (hN : X.N.Nodup) (ok : BlkOk X.N X.env.scope scope own)
    (hg : ∀ (s : Shared) (H : Hp) (C : Addr) (cl : List (Str × Addr)) (fp : List Addr), PG (X.blk s H scope (compEnvC scope cl C X.env) fp) tg g)
    (h : WI X tg iter E fun w m src E1 => ∃ I : Nat → List D → EnvT → Prop, I 0 [] (wipeE E1 (own.map (·.2))) ∧ (∀ j acc E', j ≤ m → I j acc E' → ∀ p ∈ w, E'[p.1]? = some (some p.2)) ∧
      (∀ j acc E', j < m → I j acc E' → ∃ E2, TgB X.K g (own.map (·.2)) (src j) E' E2 ∧ ∀ (s : Shared) (H : Hp) (C : Addr) (cl : List (Str × Addr)) (fp : List Addr),
        WIf (X.blk s H scope (compEnvC scope cl C X.env) fp) ifs E2 fun b E3 => (b = true → ∀ (s : Shared) (H : Hp) (C : Addr) (cl : List (Str × Addr)) (fp : List Addr), WE (X.blk s H scope (compEnvC scope cl C X.env) fp) elt E3 fun y E4 => acc.length < 100000 ∧ I (j + 1) (acc ++ [y]) (wipeE E4 (own.map (·.2)))) ∧ (b = false → I (j + 1) acc (wipeE E3 (own.map (·.2))))) ∧
      ∀ acc E', I m acc E' → k (.val (.lst acc)) E')
    (hs : ∀ x, foldedSetIterable iter X.env x = pure x := by intro _; rfl) : WO X (.ListComp elt [⟨tg, iter, ifs, 0⟩] scope pos) E k := by
  intro Z H σ F Q he hk
  exact wpE_by (pe_lc (pos := pos) (elt := elt) (ifs := ifs) hc hN (pi_w (iter := iter) (tg := tg)) ok hg (fun s H0 C cl fp => ⟨fun pins s' σ' H' Q' I' q => q s H0 C cl fp pins s' I'⟩) (fun s H0 C cl fp => ⟨fun pins s' σ' H' Q' I' q => q s H0 C cl fp pins s' I'⟩) hs) (lc_tree h Z H σ F Q he hk)

/-- y = [..] on one line -/
theorem ws_setLc {i : Nat} {y : Str} {py spos : Pos} {n : List Nat} {ks : KS} (hc : X.calm = true) (hN : X.N.Nodup) (hy : X.N[i]? = some y) (hyl : X.env.scope.names.lookup y = some .local) (hn : i ∉ n) (ok : BlkOk X.N X.env.scope scope own)
    (hg : ∀ (s : Shared) (H : Hp) (C : Addr) (cl : List (Str × Addr)) (fp : List Addr), PG (X.blk s H scope (compEnvC scope cl C X.env) fp) tg g)
    (h : WI X tg iter E fun w m src E1 => ∃ I : Nat → List D → EnvT → Prop, I 0 [] (wipeE E1 (own.map (·.2))) ∧ (∀ j acc E', j ≤ m → I j acc E' → ∀ p ∈ w, E'[p.1]? = some (some p.2)) ∧
      (∀ j acc E', j < m → I j acc E' → ∃ E2, TgB X.K g (own.map (·.2)) (src j) E' E2 ∧ ∀ (s : Shared) (H : Hp) (C : Addr) (cl : List (Str × Addr)) (fp : List Addr),
        WIf (X.blk s H scope (compEnvC scope cl C X.env) fp) ifs E2 fun b E3 => (b = true → ∀ (s : Shared) (H : Hp) (C : Addr) (cl : List (Str × Addr)) (fp : List Addr), WE (X.blk s H scope (compEnvC scope cl C X.env) fp) elt E3 fun y E4 => acc.length < 100000 ∧ I (j + 1) (acc ++ [y]) (wipeE E4 (own.map (·.2)))) ∧ (b = false → I (j + 1) acc (wipeE E3 (own.map (·.2))))) ∧
      ∀ acc E', I m acc E' → i < E'.length ∧ ks.nx (E'.set i (some (.lst acc))))
    (hsw : swapsWith (.ListComp elt [⟨tg, iter, ifs, 0⟩] scope pos) (some (.Name y py)) spos.line X.env = pure true)
    (hs : ∀ x, foldedSetIterable iter X.env x = pure x := by intro _; rfl) : WS X n (.Assign [.Name y py] (.ListComp elt [⟨tg, iter, ifs, 0⟩] scope pos) spos) E ks := by
  intro Z H σ F Dd he hk
  refine wpS_by (ps_setLc (pos := pos) (elt := elt) (ifs := ifs) (tt := (fun σ' H' Q' => ∀ (s : Shared) (H0 : Hp) (C : Addr) (cl : List (Str × Addr)) (fp : List Addr), wpTs (X.blk s H0 scope (compEnvC scope cl C X.env) fp) ifs σ' H' Q')) (te := (fun σ' H' Q' => ∀ (s : Shared) (H0 : Hp) (C : Addr) (cl : List (Str × Addr)) (fp : List Addr), wpE (X.blk s H0 scope (compEnvC scope cl C X.env) fp) elt σ' H' Q')) hc hN hy hyl hsw (pi_w (iter := iter) (tg := tg)) ok hg (fun s H0 C cl fp => ⟨fun pins s' σ' H' Q' I' q => q s H0 C cl fp pins s' I'⟩) (fun s H0 C cl fp => ⟨fun pins s' σ' H' Q' I' q => q s H0 C cl fp pins s' I'⟩) hs) ?_
  refine lc_tree (k := fun o E' => ∃ d, o = .val d ∧ i < E'.length ∧ ks.nx (E'.set i (some d))) (WI.mono h fun w m src E1 ⟨I, h1, h2, h3, h4⟩ => ⟨I, h1, h2, h3, fun acc E' q => ⟨_, rfl, h4 acc E' q⟩⟩) Z H σ F _ he fun o E1 Z1 H1 F1 G v ⟨d, eo, hE, q⟩ f r => ?_
  subst eo
  obtain ⟨F', e1, e2⟩ := f.env.asg r f.nd f.nz hE
  exact hk.nx _ Z1 H1 _ F' q ⟨e1, e1.nd, (fun a q => nomatch q), f.st.sub fun a ha => List.mem_append.mpr (e2 a ha), Pin.set hn⟩
end
end DL

namespace DL
open PySem PySem.Spec L2
variable [LamT]

/-! ### overloaded operators, by trees -/
inductive AddD : D → D → D → Prop
  | int {i j : Int} : AddD (.int i) (.int j) (.int (i + j))
  | lst {ds es : List D} : Imms ds → Imms es → ds.length + es.length ≤ 100000 → AddD (.lst ds) (.lst es) (.lst (ds ++ es))
  | tup {d e : D} {ds es : List D} : d.tseq = some ds → e.tseq = some es → Imms ds → Imms es → ds.length + es.length ≤ 100000 → AddD d e (.tup (ds ++ es))
  | str {x y : Str} : x.length + y.length ≤ 100000 → AddD (.str x) (.str y) (.str (x ++ y))
inductive MulD : D → D → D → Prop
  | int {i j : Int} : CMul i j → MulD (.int i) (.int j) (.int (i * j))
  | lst {ds : List D} {j : Int} : Imms ds → (-(2 ^ 63) ≤ j ∧ j < 2 ^ 63) → ds.length * j.toNat ≤ 100000 → MulD (.lst ds) (.int j) (.lst (List.replicate j.toNat ds).flatten)
section
variable {X : Cx} {a b : Expr} {E : EnvT} {k : Opd → EnvT → Prop} {pos p : Pos} {K : PySem.W.Frag}
theorem Op2.or1 {r r' : R2} {d1 d2 d : D} (h : Op2 K r d1 d2 d) : Op2 K (fun x y H Q => r x y H Q ∨ r' x y H Q) d1 d2 d := fun Z H v1 v2 G1 G2 r1 r2 Q q => .inl (h Z H v1 v2 G1 G2 r1 r2 Q q)
theorem Op2.or2 {r r' : R2} {d1 d2 d : D} (h : Op2 K r' d1 d2 d) : Op2 K (fun x y H Q => r x y H Q ∨ r' x y H Q) d1 d2 d := fun Z H v1 v2 G1 G2 r1 r2 Q q => .inr (h Z H v1 v2 G1 G2 r1 r2 Q q)
theorem op2_catL {ds es : List D} (i1 : Imms ds) (i2 : Imms es) (hl : ds.length + es.length ≤ 100000) : Op2 K rCat (.lst ds) (.lst es) (.lst (ds ++ es)) := fun Z H v1 v2 G1 G2 r1 r2 Q q => by
  cases r1 with
  | lst h1 s1 =>
    cases r2 with
    | lst h2 s2 =>
      have l1 := s1.len
      have l2 := s2.len
      exact ⟨_, _, _, _, rfl, rfl, h1, h2, Nat.le_trans (by omega) (by decide : 100000 ≤ sizeLine), fun p hp => q _ _ [p] (.lst upd_same (((s1.nils i1).app (s2.nils i2)).grow (Grow.new hp))) (Grow.new hp)⟩
theorem op2_catT {d1 d2 : D} {ds es : List D} (g1 : d1.tseq = some ds) (g2 : d2.tseq = some es) (i1 : Imms ds) (i2 : Imms es) (hl : ds.length + es.length ≤ 100000) : Op2 K (rCatA K) d1 d2 (.tup (ds ++ es)) := fun Z H v1 v2 G1 G2 r1 r2 Q q => by
  obtain ⟨p1, vs1, rfl, h1, s1⟩ := r1.tseq g1
  obtain ⟨p2, vs2, rfl, h2, s2⟩ := r2.tseq g2
  have l1 := s1.len
  have l2 := s2.len
  have r := (s1.nils i1).app (s2.nils i2)
  refine ⟨_, _, _, _, rfl, rfl, h1, h2, Nat.le_trans (by omega) (by decide : 100000 ≤ sizeLine), fun e0 => ?_, fun _ e0 => ?_, fun _ _ p hp => ?_⟩
  · refine q _ H [] (.tup h2 ?_) Grow.refl
    rw [e0] at r
    exact r
  · refine q _ H [] (.tup h1 ?_) Grow.refl
    rw [e0, List.append_nil] at r
    exact r
  · exact q _ _ [] (.tup (SqT.of upd_same) (r.grow (Grow.new0 hp))) (Grow.new0 hp)
theorem op2_addS {x y : Str} (hl : x.length + y.length ≤ 100000) : Op2 K (fun x y H Q => ∃ i j, x = .str i ∧ y = .str j ∧ i.length + j.length ≤ sizeLine ∧ Q (.str (i ++ j)) H) (.str x) (.str y) (.str (x ++ y)) := fun Z H v1 v2 G1 G2 r1 r2 Q q => by
  cases r1
  cases r2
  exact ⟨x, y, rfl, rfl, Nat.le_trans hl (by decide : 100000 ≤ sizeLine), q _ H [] (.str _) Grow.refl⟩
theorem op2_repL {ds : List D} {i : Int} (i1 : Imms ds) (hi : -(2 ^ 63) ≤ i ∧ i < 2 ^ 63) (hl : ds.length * i.toNat ≤ 100000) : Op2 K rRep (.lst ds) (.int i) (.lst (List.replicate i.toNat ds).flatten) := fun Z H v1 v2 G1 G2 r1 r2 Q q => by
  cases r2
  cases r1 with
  | lst h1 s1 =>
    have l1 := s1.len
    exact ⟨_, i, _, rfl, rfl, h1, hi.1, hi.2, Nat.le_trans (by rw [← l1]; exact hl) (by decide : 100000 ≤ sizeLine), fun p hp => q _ _ [p] (.lst upd_same (((s1.nils i1).rep i.toNat).grow (Grow.new hp))) (Grow.new hp)⟩
theorem wo_addD (h : WO X a E fun o1 E1 => WO X b E1 fun o2 E2 => ∃ d1 d2 d, o1.get E2 = some d1 ∧ o2.get E2 = some d2 ∧ AddD d1 d2 d ∧ k (.val d) E2) : WO X (.BinOp a .Add b pos) E k :=
  wo_bin (((op_add.or op_cat).or op_catA).or op_add_str) (WO.mono h fun o1 E1 q => WO.mono q fun o2 E2 ⟨d1, d2, d, g1, g2, ad, kk⟩ => ⟨d1, d2, d, g1, g2, by
    cases ad with
    | int => exact ((op2_I0 fun _ _ => .int _).or1.or1).or1
    | lst i1 i2 hl => exact ((op2_catL i1 i2 hl).or2.or1).or1
    | tup t1 t2 i1 i2 hl => exact (op2_catT t1 t2 i1 i2 hl).or2.or1
    | str hl => exact (op2_addS hl).or2, kk⟩)
theorem wo_mulD (h : WO X a E fun o1 E1 => WO X b E1 fun o2 E2 => ∃ d1 d2 d, o1.get E2 = some d1 ∧ o2.get E2 = some d2 ∧ MulD d1 d2 d ∧ k (.val d) E2) : WO X (.BinOp a .Mult b pos) E k :=
  wo_bin (op_mul.or op_rep) (WO.mono h fun o1 E1 q => WO.mono q fun o2 E2 ⟨d1, d2, d, g1, g2, ad, kk⟩ => ⟨d1, d2, d, g1, g2, by
    cases ad with
    | int hc => exact (op2_I hc fun _ _ => .int _).or1
    | lst i1 hj hl => exact (op2_repL i1 hj hl).or2, kk⟩)
end
/-! ### == by trees -/
theorem deq_int {i j : Int} : deq (.int i) (.int j) = decide (i = j) := by
  unfold deq
  simp only [toPy, PyData.eqv]
  exact Bool.beq_eq_decide_eq i j
theorem shp_int {i : Int} : Shp (.int i) := by
  unfold Shp SeqAt.shaped
  simp [toPy, PyData.canLay0, PyData.depth]
theorem shp_non : Shp .non := by
  unfold Shp SeqAt.shaped
  simp [toPy, PyData.canLay0, PyData.depth]
/-- a shape by its depth -/
def ShpN (n : Nat) (d : D) : Prop := (toPy d).canLay0 = true ∧ (toPy d).depth ≤ n
theorem ShpN.shp {n : Nat} {d : D} (h : ShpN n d) (hn : n ≤ 64) : Shp d := by
  unfold Shp SeqAt.shaped
  rw [Bool.and_eq_true]
  exact ⟨h.1, decide_eq_true (Nat.le_trans h.2 hn)⟩
theorem shpN_int {n : Nat} {i : Int} : ShpN n (.int i) := ⟨by simp [toPy, PyData.canLay0], by simp [toPy, PyData.depth]⟩
theorem shpN_non {n : Nat} : ShpN n .non := ⟨by simp [toPy, PyData.canLay0], by simp [toPy, PyData.depth]⟩
theorem shpN_all {n : Nat} : ∀ {ds : List D}, (∀ d ∈ ds, ShpN n d) → PyData.canLayAll0 (toPys ds) = true ∧ PyData.depthAll (toPys ds) ≤ n
  | [], _ => by simp [toPys, PyData.canLayAll0, PyData.depthAll]
  | d :: ds, h => by
    obtain ⟨h1, h2⟩ := shpN_all (n := n) (ds := ds) fun d hd => h d (List.mem_cons_of_mem _ hd)
    obtain ⟨h3, h4⟩ := h d List.mem_cons_self
    rw [toPys, PyData.canLayAll0, PyData.depthAll, h3, h1]
    exact ⟨rfl, Nat.max_le.mpr ⟨h4, h2⟩⟩
theorem shpN_tup {n : Nat} {ds : List D} (h : ∀ d ∈ ds, ShpN n d) : ShpN (n + 1) (.tup ds) := by
  obtain ⟨h1, h2⟩ := shpN_all h
  exact ⟨by rw [toPy, PyData.canLay0]; exact h1, by rw [toPy, PyData.depth]; omega⟩
theorem shpN_pt {n : Nat} {ds : List D} (h : ∀ d ∈ ds, ShpN n d) : ShpN (n + 1) (.pt ds) := by
  obtain ⟨h1, h2⟩ := shpN_all h
  exact ⟨by rw [toPy, PyData.canLay0]; exact h1, by rw [toPy, PyData.depth]; omega⟩
theorem shpN_lst {n : Nat} {ds : List D} (h : ∀ d ∈ ds, ShpN n d) : ShpN (n + 1) (.lst ds) := by
  obtain ⟨h1, h2⟩ := shpN_all h
  exact ⟨by rw [toPy, PyData.canLay0]; exact h1, by rw [toPy, PyData.depth]; omega⟩
def deqs (ds es : List D) : Bool := PyData.eqvAll (toPys ds) (toPys es)
theorem deqs_nil : deqs [] [] = true := by simp [deqs, toPys, PyData.eqvAll]
theorem deqs_cons {d e : D} {ds es : List D} : deqs (d :: ds) (e :: es) = (deq d e && deqs ds es) := by simp [deqs, deq, toPys, PyData.eqvAll]
theorem deqs_nc {d : D} {ds : List D} : deqs [] (d :: ds) = false := by simp [deqs, toPys, PyData.eqvAll]
theorem deqs_cn {d : D} {ds : List D} : deqs (d :: ds) [] = false := by simp [deqs, toPys, PyData.eqvAll]
theorem deq_tt {d e : D} {ds es : List D} (h1 : d.tseq = some ds) (h2 : e.tseq = some es) : deq d e = deqs ds es := by
  cases d <;> simp only [D.tseq, Option.some.injEq, reduceCtorEq] at h1 <;> cases e <;> simp only [D.tseq, Option.some.injEq, reduceCtorEq] at h2 <;> subst h1 <;> subst h2 <;> simp [deq, deqs, toPy, PyData.eqv]
theorem deq_ll {d e : D} {ds es : List D} (h1 : d.lseq = some ds) (h2 : e.lseq = some es) : deq d e = deqs ds es := by
  cases d <;> simp only [D.lseq, Option.some.injEq, reduceCtorEq] at h1 <;> cases e <;> simp only [D.lseq, Option.some.injEq, reduceCtorEq] at h2 <;> subst h1 <;> subst h2 <;> simp [deq, deqs, toPy, PyData.eqv]
theorem deqs_ints : ∀ {xs ys : List Int}, deqs (xs.map D.int) (ys.map D.int) = decide (xs = ys)
  | [], [] => by simp [deqs_nil]
  | [], y :: ys => by simp [deqs_nc]
  | x :: xs, [] => by simp [deqs_cn]
  | x :: xs, y :: ys => by
    rw [List.map_cons, List.map_cons, deqs_cons, deq_int, deqs_ints]
    by_cases h : x = y <;> by_cases h2 : xs = ys <;> simp [h, h2]
end DL

namespace DL
open PySem PySem.Spec L2
variable [LamT]

/-! ### dicts whose keys and values stand in two lists -/
theorem valV_zip {k : Key} {v : V} : ∀ {ks : List Key} {vs : List V} {j : Nat}, ks.Nodup → ks[j]? = some k → vs[j]? = some v → valV (ks.zip vs) k = some v
  | [], _, j, _, h, _ => by simp at h
  | _ :: _, [], j, _, _, h => by simp at h
  | k0 :: ks, v0 :: vs, 0, _, h1, h2 => by
    have e1 : k0 = k := by simpa using h1
    have e2 : v0 = v := by simpa using h2
    rw [List.zip_cons_cons, valV_pos (p := (k0, v0)) e1, e2]
  | k0 :: ks, v0 :: vs, j + 1, nd, h1, h2 => by
    have h1' : ks[j]? = some k := by simpa using h1
    have ne : ¬ k0 = k := fun e => (List.nodup_cons.mp nd).1 (by rw [e]; exact List.mem_of_getElem? h1')
    rw [List.zip_cons_cons, valV_neg (p := (k0, v0)) ne]
    exact valV_zip (List.nodup_cons.mp nd).2 h1' (by simpa using h2)
theorem map_zip_put {k : Key} {v : V} : ∀ {ks : List Key} {vs : List V} {j : Nat}, ks.Nodup → ks[j]? = some k → (ks.zip vs).map (fun kv => if kv.1 = k then (kv.1, v) else kv) = ks.zip (vs.set j v)
  | [], _, j, _, h => by simp at h
  | _ :: _, [], j, _, _ => by simp
  | k0 :: ks, v0 :: vs, 0, nd, h1 => by
    have e1 : k0 = k := by simpa using h1
    have rest : (ks.zip vs).map (fun kv => if kv.1 = k then (kv.1, v) else kv) = ks.zip vs := by
      conv => rhs; rw [← List.map_id (ks.zip vs)]
      refine List.map_congr_left fun p hp => ?_
      have hm : p.1 ∈ ks := (List.of_mem_zip hp).1
      have ne : ¬ p.1 = k := fun e => (List.nodup_cons.mp nd).1 (by rw [e1, ← e]; exact hm)
      rw [if_neg ne]
      rfl
    rw [List.zip_cons_cons, List.map_cons, rest, List.set_cons_zero, List.zip_cons_cons, if_pos e1]
  | k0 :: ks, v0 :: vs, j + 1, nd, h1 => by
    have h1' : ks[j]? = some k := by simpa using h1
    have ne : ¬ k0 = k := fun e => (List.nodup_cons.mp nd).1 (by rw [e]; exact List.mem_of_getElem? h1')
    rw [List.zip_cons_cons, List.map_cons, map_zip_put (List.nodup_cons.mp nd).2 h1', List.set_cons_succ, List.zip_cons_cons, if_neg ne]
theorem putK_zip {k : Key} {v v0 : V} {ks : List Key} {vs : List V} {j : Nat} (nd : ks.Nodup) (h1 : ks[j]? = some k) (h2 : vs[j]? = some v0) : putK (ks.zip vs) k v = ks.zip (vs.set j v) := by
  unfold putK
  rw [if_pos, map_zip_put nd h1]
  rw [valV_any, valV_zip nd h1 h2]
  rfl
section
variable {K : PySem.W.Frag} {Z Z1 Z2 Z' : Addr → Prop} {H H1 H2 H' : Hp} {F F1 F2 F' G Gt G1 G2 G' R Fd Fd' : List Addr} {σ : Sl} {E E1 E2 E' : EnvT} {d d0 d1 d2 : D} {v v1 v2 : V} {ds ds' : List D} {vs vs' : List V} {a b : Addr} {i : Nat} {o' : HO}
theorem Reps.setI : ∀ {ds : List D} {vs : List V} {G : List Addr} {j : Nat}, Reps K Z H ds vs G → ds[j]? = some d0 → Imm d0 → Rep K Z H d v [] → Reps K Z H (ds.set j d) (vs.set j v) G
  | _, _, _, _, .nil, h, _, _ => by simp at h
  | _, _, _, 0, .cons r rs, h, hi, r' => by
    have e := Option.some.inj (by simpa using h)
    subst e
    have e2 := r.imm hi
    subst e2
    exact .cons r' rs
  | _, _, _, j + 1, .cons r rs, h, hi, r' => .cons r (Reps.setI rs (by simpa using h) hi r')
/-- a slot's tree changed in place, anywhere within -/
theorem EnvS.chgN (e : EnvS K Z H E σ F) (hE : E[i]? = some (some d)) (hv : σ[i]? = some (some v)) (hr : Rep K Z H d v G) (hR : EnvR K Z H (E.set i none) σ R) (hp : F.Perm (G ++ R)) (hb : b ∈ G) (hm : NX H b)
    (hs : ∀ x ∈ G1, x ∈ G) (hn : G1.Nodup) (rep : Rep K Z (L2.upd H b o') d1 v G1) (no : NTb o' := by first | exact ntb_lst | exact ntb_dK | exact ntb_ins | assumption) :
    ∃ F', EnvS K Z (L2.upd H b o') (E.set i (some d1)) σ F' ∧ Stp Z H F Z (L2.upd H b o') F' := by
  have nF := List.nodup_append.mp (hp.nodup_iff.mp e.nd)
  have hbF : b ∈ F := hp.mem_iff.mpr (List.mem_append_left _ hb)
  have s0 : Stp Z H F Z (L2.upd H b o') F := Stp.upd hbF (e.nz b hbF) hm
  have s1 : Stp Z H [b] Z (L2.upd H b o') [b] := Stp.upd (by simp) (e.nz b hbF) hm
  have hR' := hR.step s1 (fun x hx q => by
    rw [List.mem_singleton.mp q] at hx
    exact nF.2.2 b hb b hx rfl)
  obtain ⟨F', h1, h2⟩ := hR'.put (i := i) (d := d1) (v := v) (G := G1) (by
    obtain ⟨hl, _⟩ := List.getElem?_eq_some_iff.mp hE
    simp [hl]) hv rep
  rw [List.set_set] at h1
  have inF : ∀ x ∈ F', x ∈ F := fun x hx => by
    rcases List.mem_append.mp (h2.mem_iff.mp hx) with q | q
    · exact hp.mem_iff.mpr (List.mem_append_left _ (hs x q))
    · exact hp.mem_iff.mpr (List.mem_append_right _ q)
  have nN : (G1 ++ R).Nodup := List.nodup_append.mpr ⟨hn, nF.2.1, fun x hx y hy q => nF.2.2 x (hs x hx) y hy q⟩
  refine ⟨F', ⟨h1, h2.nodup_iff.mpr nN, fun x hx => e.nz x (inF x hx), e.zt.stp s0⟩, s0.sub inF⟩
theorem dic_nt {kvs : List (Key × V)} (h : H a = some (.dK kvs)) : NX H a := ⟨(fun xs q => by rcases q with q | ⟨o, q⟩ <;> (rw [h] at q; cases q)), (fun ps q => by rw [h] at q; cases q), fun φ q => by rw [h] at q; cases q⟩
theorem EnvS.dic {ks : List Key} (e : EnvS K Z H E σ F) (hE : E[i]? = some (some (.dic ks ds))) : ∃ a vs Fd R, σ[i]? = some (some (.ref a)) ∧ H a = some (.dK (ks.zip vs)) ∧ ks.length = vs.length ∧ Reps K Z H ds vs Fd ∧ EnvR K Z H (E.set i none) σ R ∧ F.Perm ((a :: Fd) ++ R) := by
  obtain ⟨v, G, R, h1, h2, h3, h4⟩ := e.r.get hE
  cases h2 with
  | dic hl hk rs => exact ⟨_, _, _, R, h1, hl, hk, rs, h3, h4⟩
/-- a list of ints that stands in an owned row -/
theorem Reps.within {g : Int} {gs : List Int} : ∀ {ds : List D} {vs : List V} {G : List Addr} {j : Nat}, Reps K Z H ds vs G → ds[j]? = some (.lst ((g :: gs).map D.int)) → G.Nodup →
    ∃ b ws, vs[j]? = some (.ref b) ∧ H b = some (.lst ws) ∧ ws = (g :: gs).map V.int ∧ b ∈ G ∧ (∀ H', (∀ y ∈ G, y ≠ b → ∀ o, NTb o → H y = some o → H' y = some o) → Kp Z H Z H' → H' b = some (.lst (gs.map V.int)) → Reps K Z H' (ds.set j (.lst (gs.map D.int))) vs G)
  | _, _, _, _, .nil, h, _ => by simp at h
  | _, _, _, 0, .cons r1 rs1, h, nd => by
    have ndp := List.nodup_append.mp nd
    have e := Option.some.inj (by simpa using h)
    subst e
    cases r1 with
    | lst hb rr =>
      rename_i b ws Fb
      have ei := Reps.ints (ns := g :: gs) rr
      have ef := rr.imm (imms_ints (xs := g :: gs))
      subst ei
      subst ef
      refine ⟨b, _, rfl, hb, rfl, List.mem_append_left _ List.mem_cons_self, fun H' hk kp hb' => ?_⟩
      refine .cons (.lst hb' (Reps.ofInts gs)) (rs1.kp kp fun y hy o nt ho => hk y (List.mem_append_right _ hy) (fun q => ?_) o nt ho)
      subst q
      exact ndp.2.2 y List.mem_cons_self y hy rfl
  | _, _, _, j + 1, .cons r1 rs1, h, nd => by
    have ndp := List.nodup_append.mp nd
    obtain ⟨b, ws, h1, h2, h3, h4, h5⟩ := Reps.within rs1 (by simpa using h) ndp.2.1
    refine ⟨b, ws, by simpa using h1, h2, h3, List.mem_append_right _ h4, fun H' hk kp hb' => ?_⟩
    refine .cons (r1.kp kp fun y hy o nt ho => hk y (List.mem_append_left _ hy) (fun q => ?_) o nt ho) (h5 H' (fun y hy => hk y (List.mem_append_right _ hy)) kp hb')
    subst q
    exact ndp.2.2 y hy y h4 rfl
end
section
variable {X : Cx} {n : List Nat} {E : EnvT} {k : Opd → EnvT → Prop} {ks : KS} {pos pos' apos p p2 : Pos} {i j jj : Nat} {x z : Str} {e : Expr} {keys : List Key} {ds : List D} {d : D}
/-- x['z'] -/
theorem wo_dget (hu : X.A.units + 1 < cLine) (hN : X.N[i]? = some x) (hE : E[i]? = some (some (.dic keys ds))) (hk : keys.Nodup) (hj : keys[j]? = some (.inr z)) (hd : ds[j]? = some d) (hi : Imm d) (h : k (.val d) E)
    (hv : Vis X.env.scope x := by first | exact Or.inl rfl | exact Or.inr (Or.inl rfl) | exact Or.inr (Or.inr rfl)) (hdb : (x == ("__debug__" : Str)) = false := by decide) (hcd : (x == ("__classdict__" : Str)) = false := by decide) :
    WO X (.Subscript (.Name x p) (.Constant (.str z) jj p2) pos) E k := by
  intro Z H σ F Q he hk'
  obtain ⟨a, vs, Fd, R, hv1, hH, hl, rs, hR, hp⟩ := he.dic hE
  obtain ⟨v, G', hvj, rv, _⟩ := rs.get hd
  refine wpE_by (pe_dget hu (pe_var hN hv hdb hcd) pe_str (fun _ _ => rfl)) ⟨_, hv1, a, v, rfl, ?_, hk' _ E Z H F [] v h (Fin.refl he) (rv.nils hi)⟩
  have g := DGet.k (k := Sum.inr z) hH
  rw [valV_zip hk hj hvj] at g
  exact g
/-- x['z'] = e, of a thing that owns nothing -/
theorem ws_dput (hu : X.A.units + 1 < cLine) (hN : X.N[i]? = some x) (h : WE X e E fun d E1 => ∃ keys ds j d0, E1[i]? = some (some (.dic keys ds)) ∧ keys.Nodup ∧ keys[j]? = some (.inr z) ∧ ds[j]? = some d0 ∧ Imm d0 ∧ Imm d ∧ keys.length ≤ 100000 ∧ ks.nx (E1.set i (some (.dic keys (ds.set j d)))))
    (hs : swapsWith e (some (.Subscript (.Name x p) (.Constant (.str z) jj p2) pos')) pos.line X.env = pure false := by rfl)
    (hv : Vis X.env.scope x := by first | exact Or.inl rfl | exact Or.inr (Or.inl rfl) | exact Or.inr (Or.inr rfl)) (hdb : (x == ("__debug__" : Str)) = false := by decide) (hcd : (x == ("__classdict__" : Str)) = false := by decide) :
    WS X n (.Assign [.Subscript (.Name x p) (.Constant (.str z) jj p2) pos'] e pos) E ks := by
  intro Z H σ F D he hk'
  refine wpS_by (ps_dput hu (pe_var hN hv hdb hcd) pe_str pe_w hs) (h Z H σ F _ he fun o E1 Z1 H1 F1 G v ⟨d, eo, keys, ds, j, d0, hE, hk, hj, hd, hi0, hi, hlen, q⟩ f r => ?_)
  subst eo
  obtain ⟨a, vs, Fd, R, hv1, hH, hl, rs, hR, hp⟩ := f.env.dic hE
  have rv : Rep X.K Z1 H1 d v [] := Rep.nils r hi
  obtain ⟨v0, G0, hvj, _, _⟩ := rs.get hd
  have nG := (List.nodup_append.mp (hp.nodup_iff.mp f.env.nd)).1
  have haF : a ∈ F1 := hp.mem_iff.mpr (List.mem_append_left _ List.mem_cons_self)
  have s1 : Stp Z1 H1 [a] Z1 (upd H1 a (.dK (putK (keys.zip vs) (Sum.inr z) v))) [a] := Stp.upd (by simp) (f.env.nz a haF) (dic_nt hH)
  have rep : Rep X.K Z1 (upd H1 a (.dK (putK (keys.zip vs) (Sum.inr z) v))) (.dic keys (ds.set j d)) (.ref a) (a :: Fd) := by
    refine .dic (vs := vs.set j v) ?_ (by rw [List.length_set]; exact hl) ((rs.setI hd hi0 rv).step s1 fun y hy q => ?_)
    · rw [upd_same, putK_zip hk hj hvj]
    · rw [List.mem_singleton.mp q] at hy
      exact (List.nodup_cons.mp nG).1 hy
  obtain ⟨F', e2, s2⟩ := f.env.chgN hE hv1 (.dic hH hl rs) hR hp List.mem_cons_self (dic_nt hH) (fun y hy => hy) nG rep
  refine ⟨_, hv1, a, _, rfl, DPut.k (k := Sum.inr z) hH ?_, ?_⟩
  · rw [List.length_zip]
    exact Nat.lt_of_le_of_lt (Nat.le_trans (Nat.min_le_left _ _) hlen) (by decide)
  · exact hk'.nx _ Z1 _ σ F' q ⟨e2, e2.nd, (fun y hy => nomatch hy), f.nil.st.trans s2, Pin.refl⟩
/-- x['z'].pop(0), a list of ints -/
theorem wo_dpop {g : Int} {gs : List Int} (hu : X.A.units + 1 < cLine) (hN : X.N[i]? = some x) (hE : E[i]? = some (some (.dic keys ds))) (hk : keys.Nodup) (hj : keys[j]? = some (.inr z)) (hd : ds[j]? = some (.lst ((g :: gs).map D.int))) (h : k (.val (.int g)) (E.set i (some (.dic keys (ds.set j (.lst (gs.map D.int)))))))
    (hb : ∀ t, PE X (.Subscript (.Name x p) (.Constant (.str z) jj p2) pos') t → PE X (.Call (.Attribute (.Subscript (.Name x p) (.Constant (.str z) jj p2) pos') "pop" apos) [e] [] pos) (tBM X.K "list" rPopAt t (tCons (tC (.int 0)) tNil)))
    (hv : Vis X.env.scope x := by first | exact Or.inl rfl | exact Or.inr (Or.inl rfl) | exact Or.inr (Or.inr rfl)) (hdb : (x == ("__debug__" : Str)) = false := by decide) (hcd : (x == ("__classdict__" : Str)) = false := by decide) :
    WO X (.Call (.Attribute (.Subscript (.Name x p) (.Constant (.str z) jj p2) pos') "pop" apos) [e] [] pos) E k := by
  intro Z H σ F Q he hk'
  obtain ⟨a, vs, Fd, R, hv1, hH, hl, rs, hR, hp⟩ := he.dic hE
  obtain ⟨v, G', hvj, rv, _⟩ := rs.get hd
  have nG := (List.nodup_append.mp (hp.nodup_iff.mp he.nd)).1
  obtain ⟨b, ws, hb1, hb2, hb3, hb4, hb5⟩ := Reps.within rs hd (List.nodup_cons.mp nG).2
  subst hb3
  have eb : v = .ref b := by rw [hvj] at hb1; exact Option.some.inj hb1
  subst eb
  have hbF : b ∈ F := hp.mem_iff.mpr (List.mem_append_left _ (List.mem_cons_of_mem _ hb4))
  have s1 : Stp Z H [b] Z (upd H b (.lst (gs.map V.int))) [b] := Stp.upd (by simp) (he.nz b hbF) (lst_nt hb2)
  have nab : a ≠ b := fun q => (List.nodup_cons.mp nG).1 (by rw [q]; exact hb4)
  have rep : Rep X.K Z (upd H b (.lst (gs.map V.int))) (.dic keys (ds.set j (.lst (gs.map D.int)))) (.ref a) (a :: Fd) :=
    .dic (vs := vs) (by rw [upd_ne nab]; exact hH) hl (hb5 _ (fun y hy hne o _ ho => by rw [upd_ne hne]; exact ho) s1.kp upd_same)
  obtain ⟨F', e2, s2⟩ := he.chgN hE hv1 (.dic hH hl rs) hR hp (List.mem_cons_of_mem _ hb4) (lst_nt hb2) (fun y hy => hy) nG rep
  refine wpE_by (hb _ (pe_dget hu (pe_var hN hv hdb hcd) pe_str (fun _ _ => rfl))) ⟨_, hv1, a, .ref b, rfl, ?_, .inl ⟨rfl, _, SqL.of hb2⟩, ?_⟩
  · have g := DGet.k (k := Sum.inr z) hH
    rw [valV_zip hk hj hvj] at g
    exact g
  · have hix : ixN ((g :: gs).map V.int).length 0 = some 0 := by
      unfold ixN
      rw [if_pos (by decide), if_pos (by simp)]
      rfl
    refine ⟨b, _, 0, 0, .int g, rfl, rfl, hb2, by decide, by decide, (ixN_seq hix).1, rfl, ?_⟩
    exact hk' _ _ Z _ F' [] _ h ⟨e2, e2.nd, (fun y hy => nomatch hy), s2⟩ (.int g)
end
end DL

namespace DL
open PySem PySem.Spec L2
variable [LamT]
section
variable {X : Cx} {n : List Nat} {E : EnvT} {k : Opd → EnvT → Prop} {pos : Pos} {e : Expr}
/-- a list that will not change any more -/
theorem wo_freeze (h : WO X e E fun o E1 => ∃ ds, o = .val (.lst ds) ∧ Imms ds ∧ k (.val (.fz ds)) E1) : WO X e E k := by
  intro Z H σ F Q he hk
  refine h Z H σ F Q he fun o E1 Z1 H1 F1 G v ⟨ds, eo, im, q⟩ f r => ?_
  subst eo
  have r' : Rep X.K Z1 H1 (.lst ds) v G := r
  cases r' with
  | lst hl rs =>
    rename_i a vs Fd
    have ed := rs.imm im
    subst ed
    have aG : a ∉ F1 := fun q => (List.nodup_append.mp f.nd).2.2 a (by simp) a q rfl
    refine hk _ E1 (fun b => Z1 b ∨ b = a) H1 F1 [] _ q ⟨⟨f.env.r.kp ⟨fun _ z => .inl z, fun _ _ z => z, fun _ _ _ _ z => z, fun _ _ _ z => z⟩ fun _ _ _ _ z => z, f.env.nd, fun x hx z => ?_, fun x z => ?_, f.env.zt.tb⟩, f.env.nd, (fun x hx => nomatch hx), ?_⟩ (.fz (.inl ⟨.inr rfl, .inl hl⟩) (rs.kp ⟨fun _ z => .inl z, fun _ _ z => z, fun _ _ _ _ z => z, fun _ _ _ z => z⟩ fun x hx => nomatch hx))
    · rcases z with z | z
      · exact f.env.nz x hx z
      · exact aG (by rw [← z]; exact hx)
    · rcases z with z | z
      · exact f.env.zt.th x z
      · exact ⟨_, by rw [z]; exact hl, ntb_lst⟩
    · refine ⟨fun x z => .inl (f.st.z1 x z), fun x z => ?_, f.st.fr, f.st.tb, f.st.th, fun x hx => f.st.f2 x (List.mem_append_right _ hx), f.st.tu, f.st.fl, f.st.ft⟩
      rcases z with z | z
      · exact f.st.z2 x z
      · rw [z]
        exact .inr (f.st.f2 a (List.mem_append_left _ (by simp)))
end
/-! ### {'z': e, ..} -/
def WVs (X : Cx) : List Expr → EnvT → (List D → EnvT → Prop) → Prop
  | [], E, k => k [] E
  | e :: es, E, k => WE X e E fun d E1 => WVs X es E1 fun ds E2 => k (d :: ds) E2
def pairT (X : Cx) : List Str → List Expr → List (TE × TE)
  | z :: zs, e :: es => (tC (.str z), wpE X e) :: pairT X zs es
  | _, _ => []
theorem pairs_run {X : Cx} : ∀ {zs : List Str} {es : List Expr} {E : EnvT} {k : List D → EnvT → Prop}, zs.length = es.length → WVs X es E k → ∀ (Z : Addr → Prop) (H : Hp) (σ : Sl) (F : List Addr) (Q : List (V × V) → Hp → Prop), EnvS X.K Z H E σ F →
    (∀ (ds : List D) (E' : EnvT) (Z' : Addr → Prop) (H' : Hp) (F' G : List Addr) (vs : List V), k ds E' → ds.length = es.length → Fin X.K Z H σ F E' Z' H' F' G → Reps X.K Z' H' ds vs G → Q ((zs.map V.str).zip vs) H') → tPairs (pairT X zs es) σ H Q
  | [], [], E, k, _, h, Z, H, σ, F, Q, he, hk => hk [] E Z H F [] [] h rfl (Fin.refl he) .nil
  | z :: zs, e :: es, E, k, hl, h, Z, H, σ, F, Q, he, hk => by
    show wpE X e σ H _
    refine h Z H σ F _ he fun o E1 Z1 H1 F1 G1 v ⟨d, eo, q⟩ f r => ?_
    subst eo
    have r1 : Rep X.K Z1 H1 d v G1 := r
    refine pairs_run (by simpa using hl) q Z1 H1 σ F1 _ f.env fun ds E2 Z2 H2 F2 G2 vs q2 l2 f2 rs => ?_
    exact hk (d :: ds) E2 Z2 H2 F2 (G1 ++ G2) (v :: vs) q2 (by rw [List.length_cons, List.length_cons, l2]) (f.join r1.mem f2) (.cons (r1.step f2.st (f.off r1.mem f2)) rs)
  | [], _ :: _, _, _, hl, _, _, _, _, _, _, _, _ => by simp at hl
  | _ :: _, [], _, _, hl, _, _, _, _, _, _, _, _ => by simp at hl
theorem mergeK_new : ∀ {more kvs : List (Key × V)}, (∀ p ∈ more, valV kvs p.1 = none) → (more.map (·.1)).Nodup → mergeK kvs more = kvs ++ more
  | [], kvs, _, _ => by rw [List.append_nil]; rfl
  | p :: more, kvs, h, nd => by
    have h0 := h p List.mem_cons_self
    show mergeK (putK kvs p.1 p.2) more = _
    have ndc : (p.1 :: more.map (·.1)).Nodup := nd
    rw [putK_new p.2 h0, mergeK_new (fun q hq => ?_) (List.nodup_cons.mp ndc).2, List.append_assoc]
    · rfl
    · rw [valV_snoc p.1 q.1 p.2 kvs h0, if_neg, h q (List.mem_cons_of_mem _ hq)]
      intro e
      exact (List.nodup_cons.mp ndc).1 (by rw [← e]; exact List.mem_map_of_mem hq)
section
variable {X : Cx} {n : List Nat} {E : EnvT} {k : Opd → EnvT → Prop} {pos : Pos}
theorem wo_disp {keys : List (Option Expr)} {es : List Expr} {zs : List Str} (hp : PE X (.Dict keys es pos) (tDisp (pairT X zs es))) (hl : zs.length = es.length) (hl15 : zs.length ≤ 15) (nd : zs.Nodup) (h : WVs X es E fun ds E1 => k (.val (.dic (zs.map Sum.inr) ds)) E1) : WO X (.Dict keys es pos) E k := by
  intro Z H σ F Q he hk
  refine wpE_by hp fun p hp0 => ?_
  have g0 := Grow.new (H := H) (p := p) (o := .dK []) hp0
  have e0 : EnvS X.K Z (upd H p (.dK [])) E σ F := ⟨he.r.kp g0.kp fun a _ o _ e => g0.gr a o e, he.nd, he.nz, he.zt.gr g0⟩
  have pF : p ∉ F := fun q => by
    obtain ⟨o, e, _⟩ := he.r.mem p q
    rw [hp0] at e
    cases e
  have pZ : ¬ Z p := fun q => by
    obtain ⟨o, e, _⟩ := he.zt.th p q
    rw [hp0] at e
    cases e
  refine pairs_run hl h Z _ σ F _ e0 fun ds E2 Z2 H2 F2 G vs q ld f rs => ?_
  have f0 : Stp Z H F Z (upd H p (.dK [])) ([p] ++ F) := g0.st
  have mem0 : ∀ a ∈ [p], ∃ u, upd H p (.dK []) a = some u ∧ NTb u := fun a ha => ⟨.dK [], by rw [List.mem_singleton.mp ha]; exact upd_same, ntb_dK⟩
  have ap := f.st.apart (G := [p]) (F1 := F) (F2 := G ++ F2) mem0 (List.nodup_cons.mpr ⟨pF, he.nd⟩) f.nd
  have hH2 : H2 p = some (.dK []) := f.st.fr p _ upd_same (ap.2 p (by simp)) ntb_dK
  have nz2 := f.st.nz (G := [p]) mem0 ap.2 (fun a ha => by rw [List.mem_singleton.mp ha]; exact pZ)
  have stA : Stp Z H F Z2 H2 ([p] ++ (G ++ F2)) := f0.push f.st
  have hv := rs.len
  have hkl : (zs.map (Sum.inr : Str → Key)).length = vs.length := by rw [List.length_map]; omega
  have ndk : (zs.map (Sum.inr : Str → Key)).Nodup := List.Pairwise.map _ (fun a b hab e => hab (Sum.inr.inj e)) nd
  refine ⟨hH2, (zs.map Sum.inr).zip vs, ?_, ?_, ?_⟩
  · rw [List.zip_map_left, List.zip_map_left, List.map_map]
    rfl
  · rw [List.length_zip, List.length_map]
    omega
  · rw [mergeK_new (kvs := []) (fun _ _ => rfl) (by rw [List.map_fst_zip (by omega)]; exact ndk), List.nil_append]
    have ndall : (p :: (G ++ F2)).Nodup := ap.1
    have su : Stp Z2 H2 [p] Z2 (upd H2 p (.dK ((zs.map Sum.inr).zip vs))) [p] := Stp.upd (by simp) (nz2 p (by simp)) (dic_nt hH2)
    have notP : ∀ a ∈ G ++ F2, a ∉ [p] := fun a ha hm => by
      rw [List.mem_singleton.mp hm] at ha
      exact (List.nodup_cons.mp ndall).1 ha
    refine hk _ E2 Z2 _ F2 (p :: G) (.ref p) q ⟨⟨f.env.r.step su fun a ha => notP a (List.mem_append_right _ ha), f.env.nd, f.env.nz, f.env.zt.stp su⟩, ndall, fun x hx => ?_, ?_⟩ (.dic upd_same hkl (rs.step su fun a ha => notP a (List.mem_append_left _ ha)))
    · rcases List.mem_cons.mp hx with z | z
      · rw [z]; exact nz2 p (by simp)
      · exact f.nz x z
    · refine stA.trans (su.more (fun a ha => by rw [List.mem_singleton.mp ha]; simp) fun a ha => ?_)
      rcases List.mem_cons.mp ha with z | z
      · exact .inl (by rw [z]; simp)
      · exact .inr (List.mem_append_right _ z)
end
end DL

namespace DL
open PySem PySem.Spec L2
variable [LamT]

/-! ### comparisons, by trees -/
def rD (X : Cx) (op : CmpOp) : R2 := fun x y H Q => ∃ r : R2, OpR X (compareOp op) r ∧ r x y H Q
theorem opr_D {X : Cx} {op : CmpOp} : OpR X (compareOp op) (rD X op) := fun pins s σ H x y v u Q I rx ry ⟨r, ho, q⟩ => ho pins s σ H x y v u Q I rx ry q
def CmpD (X : Cx) (op : CmpOp) (d1 d2 : D) (t : Bool) : Prop := Op2 X.K (rD X op) d1 d2 (.bl t)
theorem shp_lay {d : D} (h : Shp d) : (toPy d).canLay0 = true := by
  unfold Shp SeqAt.shaped at h
  rw [Bool.and_eq_true] at h
  exact h.1
section
variable {X : Cx} {n : List Nat} {e a b c l f : Expr} {es rs : List Expr} {E : EnvT} {k : Opd → EnvT → Prop} {kb : Bool → EnvT → Prop} {ks : KS} {pos p : Pos} {op op' op1 op2 : CmpOp} {ops : List CmpOp} {r r' r1 r2 : Expr}
theorem CmpD.mk {op : CmpOp} {r : R2} {d1 d2 : D} {t : Bool} (ho : OpR X (compareOp op) r) (h : Op2 X.K r d1 d2 (.bl t)) : CmpD X op d1 d2 t := fun Z H v1 v2 G1 G2 r1 r2 Q q => ⟨r, ho, h Z H v1 v2 G1 G2 r1 r2 Q q⟩
theorem cmp_lt {i j : Int} : CmpD X .Lt (.int i) (.int j) (decide (i < j)) := .mk op_lt (op2_I0 fun _ _ => .bl _)
theorem cmp_le {i j : Int} : CmpD X .LtE (.int i) (.int j) (decide (i ≤ j)) := .mk op_le (op2_I0 fun _ _ => .bl _)
theorem cmp_gt {i j : Int} : CmpD X .Gt (.int i) (.int j) (decide (j < i)) := .mk op_gt (op2_I0 fun _ _ => .bl _)
theorem cmp_ge {i j : Int} : CmpD X .GtE (.int i) (.int j) (decide (j ≤ i)) := .mk op_ge (op2_I0 fun _ _ => .bl _)
theorem cmp_eqI {i j : Int} : CmpD X .Eq (.int i) (.int j) (decide (i = j)) := .mk op_eq fun Z H v1 v2 G1 G2 r1 r2 Q q => by
  cases r1
  cases r2
  refine ⟨rfl, q _ H [] ?_ Grow.refl⟩
  have e1 : decide (V.int i = V.int j) = decide (i = j) := by by_cases h : i = j <;> simp [h]
  rw [e1]
  exact .bl _
theorem cmp_neI {i j : Int} : CmpD X .NotEq (.int i) (.int j) (!decide (i = j)) := .mk op_ne fun Z H v1 v2 G1 G2 r1 r2 Q q => by
  cases r1
  cases r2
  refine ⟨rfl, q _ H [] ?_ Grow.refl⟩
  have e1 : decide (V.int i = V.int j) = decide (i = j) := by by_cases h : i = j <;> simp [h]
  rw [e1]
  exact .bl _
theorem cmp_eqS {i j : Str} : CmpD X .Eq (.str i) (.str j) (decide (i = j)) := .mk op_eq fun Z H v1 v2 G1 G2 r1 r2 Q q => by
  cases r1
  cases r2
  refine ⟨rfl, q _ H [] ?_ Grow.refl⟩
  have e1 : decide (V.str i = V.str j) = decide (i = j) := by by_cases h : i = j <;> simp [h]
  rw [e1]
  exact .bl _
theorem cmp_isN {d : D} : CmpD X .Is d .non (isNon d) := .mk op_isN fun Z H v1 v2 G1 G2 r1 r2 Q q => by
  cases r2
  refine ⟨rfl, q _ H [] ?_ Grow.refl⟩
  rw [r1.isNon]
  exact .bl _
theorem cmp_notN {d : D} : CmpD X .IsNot d .non (!isNon d) := .mk op_notN fun Z H v1 v2 G1 G2 r1 r2 Q q => by
  cases r2
  refine ⟨rfl, q _ H [] ?_ Grow.refl⟩
  rw [r1.isNon]
  exact .bl _
theorem cmp_eq {d1 d2 : D} (hu : X.A.units + 64 < cLine) (s1 : Shp d1) (s2 : Shp d2) : CmpD X .Eq d1 d2 (deq d1 d2) := .mk (op_eqD hu) fun Z H v1 v2 G1 G2 r1 r2 Q q =>
  ⟨_, _, r1.dp (shp_lay s1), r2.dp (shp_lay s2), s1, s2, q _ H [] (.bl _) Grow.refl⟩
theorem cmp_ne {d1 d2 : D} (hu : X.A.units + 64 < cLine) (s1 : Shp d1) (s2 : Shp d2) : CmpD X .NotEq d1 d2 (!deq d1 d2) := .mk (op_neD hu) fun Z H v1 v2 G1 G2 r1 r2 Q q =>
  ⟨_, _, r1.dp (shp_lay s1), r2.dp (shp_lay s2), s1, s2, q _ H [] (.bl _) Grow.refl⟩
theorem wo_cmpD (hm : behindInMarks op b = false) (h : WO X a E fun o1 E1 => WO X b E1 fun o2 E2 => ∃ d1 d2 t, o1.get E2 = some d1 ∧ o2.get E2 = some d2 ∧ CmpD X op d1 d2 t ∧ k (.val (.bl t)) E2) : WO X (.Compare a [op] [b] pos) E k :=
  wo_cmp opr_D hm (WO.mono h fun o1 E1 q => WO.mono q fun o2 E2 ⟨d1, d2, t, g1, g2, c, kk⟩ => ⟨d1, d2, _, g1, g2, c, kk⟩)
theorem wt_cmpD (hm : behindInMarks op b = false) (h : WO X a E fun o1 E1 => WO X b E1 fun o2 E2 => ∃ d1 d2 t, o1.get E2 = some d1 ∧ o2.get E2 = some d2 ∧ CmpD X op d1 d2 t ∧ kb t E2) : WT X (.Compare a [op] [b] pos) E kb := by
  intro Z H σ F Q he hk
  refine wpT_by (pt_cmpR opr_D pe_w pe_w hm) (h Z H σ F _ he fun o1 E1 Z1 H1 F1 G1 v1 k1 f1 r1 => ?_)
  refine k1 Z1 H1 σ F1 _ f1.env fun o2 E2 Z2 H2 F2 G2 v2 ⟨d1, d2, t, g1, g2, op, k2⟩ f2 r2 => ?_
  have r1' := r1.step f2.st (f1.off r1.mem f2)
  obtain ⟨G3, q1, _⟩ := r1'.use f2.env g1
  obtain ⟨G4, q2, _⟩ := r2.use f2.env g2
  refine op Z2 H2 v1 v2 G3 G4 q1 q2 _ fun v H' G rv gr => ?_
  cases rv
  exact ⟨t, rfl, hk t E2 Z2 H' F2 k2 ((f1.then f2).nil.grow gr).nil⟩

/-! ### chains of comparisons of ints -/
def CmpI (X : Cx) (op : CmpOp) (f : Int → Int → Bool) : Prop := OpR X (compareOp op) (rI0 fun i j => .bl (f i j))
def wpTC (X : Cx) (i : Int) (ops : List CmpOp) (es : List Expr) (σ : Sl) (H : Hp) (Q : Bool → Hp → Prop) : Prop := ∀ (pins : List (Addr × Obj)) (s : Shared) (pos : Pos) (u : Value), Inv X pins σ H s → RelV (.int i) u →
  wpAny (model X.prog X.w) X.A (testChain pos u ops (evalEach es X.env)) (TP X pins σ Q) X.xe s
def WTC (X : Cx) (i : Int) (ops : List CmpOp) (es : List Expr) (E : EnvT) (k : Bool → EnvT → Prop) : Prop := ∀ (Z : Addr → Prop) (H : Hp) (σ : Sl) (F : List Addr) (Q : Bool → Hp → Prop), EnvS X.K Z H E σ F →
  (∀ (b : Bool) (E' : EnvT) (Z' : Addr → Prop) (H' : Hp) (F' : List Addr), k b E' → Fin X.K Z H σ F E' Z' H' F' [] → Q b H') → wpTC X i ops es σ H Q
theorem wtc_last {i : Int} {f : Int → Int → Bool} (hf : CmpI X op f) (h : WO X r E fun o E1 => ∃ j, o.get E1 = some (.int j) ∧ kb (f i j) E1) : WTC X i [op] [r] E kb := by
  intro Z H σ F Q he hk pins s pos u I ru
  refine PyProof.Rows.test_last (thn (h Z H σ F (fun v H1 => ∃ j, v = .int j ∧ Q (f i j) H1) he (fun o E1 Z1 H1 F1 G v ⟨j, g, q⟩ f1 rv => ?_) pins s I) fun v s1 ⟨x, H1, I1, r1, q1⟩ => ?_)
  · obtain ⟨G', r', _⟩ := rv.use f1.env g
    cases r'
    exact ⟨j, rfl, hk _ E1 Z1 H1 F1 q f1.nil⟩
  · obtain ⟨j, rfl, q⟩ := q1
    refine thn (hf pins s1 σ H1 (.int i) (.int j) u v (fun z H2 => z = .bl (f i j) ∧ Q (f i j) H2) I1 ru r1 ⟨i, j, rfl, rfl, rfl, q⟩) fun c s2 ⟨z, H2, I2, r2, ez, q2⟩ => ?_
    subst ez
    cases r2
    exact wpAny_truthy_bool ⟨H2, I2, q2⟩
theorem wtc_link {i : Int} {f : Int → Int → Bool} (hf : CmpI X op f) (h : WO X r E fun o E1 => ∃ j, o.get E1 = some (.int j) ∧ (f i j = true → WTC X j (op' :: ops) (r' :: rs) E1 kb) ∧ (f i j = false → kb false E1)) : WTC X i (op :: op' :: ops) (r :: r' :: rs) E kb := by
  intro Z H σ F Q he hk pins s pos u I ru
  show wpAny (model X.prog X.w) X.A (testChain pos u (op :: op' :: ops) (eval r X.env :: eval r' X.env :: evalEach rs X.env)) (TP X pins σ Q) X.xe s
  refine PyProof.Rows.test_link (thn (h Z H σ F (fun v H1 => ∃ j, v = .int j ∧ (f i j = true → wpTC X j (op' :: ops) (r' :: rs) σ H1 Q) ∧ (f i j = false → Q false H1)) he (fun o E1 Z1 H1 F1 G v ⟨j, g, q1, q2⟩ f1 rv => ?_) pins s I) fun v s1 ⟨x, H1, I1, r1, q1⟩ => ?_)
  · obtain ⟨G', r', _⟩ := rv.use f1.env g
    cases r'
    exact ⟨j, rfl, fun ht => q1 ht Z1 H1 σ F1 Q f1.env fun b E2 Z2 H2 F2 k2 f2 => hk b E2 Z2 H2 F2 k2 (f1.then f2), fun ht => hk _ E1 Z1 H1 F1 (q2 ht) f1.nil⟩
  · obtain ⟨j, rfl, qt, qf⟩ := q1
    refine thn (hf pins s1 σ H1 (.int i) (.int j) u v (fun z H2 => z = .bl (f i j) ∧ H2 = H1) I1 ru r1 ⟨i, j, rfl, rfl, rfl, rfl⟩) fun c s2 ⟨z, H2, I2, r2, ez, e2⟩ => ?_
    subst ez
    subst e2
    cases r2
    refine wpAny_truthy_bool ?_
    cases hb : f i j with
    | true => rw [if_pos rfl]; exact qt hb pins s2 pos v I2 r1
    | false => rw [if_neg Bool.false_ne_true]; exact ⟨H2, I2, qf hb⟩
theorem wt_chain {rs : List Expr} (h : WO X l E fun o E1 => ∃ i, o.get E1 = some (.int i) ∧ WTC X i (op1 :: op2 :: ops) (r1 :: r2 :: rs) E1 kb)
    (hm : lastMarks (op1 :: op2 :: ops) (r1 :: r2 :: rs) = false := by with_unfolding_all rfl) : WT X (.Compare l (op1 :: op2 :: ops) (r1 :: r2 :: rs) pos) E kb := by
  intro Z H σ F Q he hk pins s I
  refine PyProof.Rows.isTrue_chain (thn (h Z H σ F (fun v H1 => ∃ i, v = .int i ∧ wpTC X i (op1 :: op2 :: ops) (r1 :: r2 :: rs) σ H1 Q) he (fun o E1 Z1 H1 F1 G v ⟨i, g, q⟩ f1 rv => ?_) pins s I) fun v s1 ⟨x, H1, I1, rx, q1⟩ => ?_) hm
  · obtain ⟨G', r', _⟩ := rv.use f1.env g
    cases r'
    exact ⟨i, rfl, q Z1 H1 σ F1 Q f1.env fun b E2 Z2 H2 F2 k2 f2 => hk b E2 Z2 H2 F2 k2 (f1.then f2)⟩
  · obtain ⟨i, rfl, q⟩ := q1
    exact q pins s1 pos v I1 rx
/-! as values -/
def wpVC (X : Cx) (i : Int) (ops : List CmpOp) (es : List Expr) (σ : Sl) (H : Hp) (Q : VK) : Prop := ∀ (pins : List (Addr × Obj)) (s : Shared) (pos : Pos) (u : Value), Inv X pins σ H s → RelV (.int i) u →
  wpAny (model X.prog X.w) X.A (compareChain pos u ops (evalEach es X.env)) (EP X pins σ Q) X.xe s
def WVC (X : Cx) (i : Int) (ops : List CmpOp) (es : List Expr) (E : EnvT) (k : Bool → EnvT → Prop) : Prop := ∀ (Z : Addr → Prop) (H : Hp) (σ : Sl) (F : List Addr) (Q : VK), EnvS X.K Z H E σ F →
  (∀ (b : Bool) (E' : EnvT) (Z' : Addr → Prop) (H' : Hp) (F' : List Addr), k b E' → Fin X.K Z H σ F E' Z' H' F' [] → Q (.bl b) H') → wpVC X i ops es σ H Q
theorem wvc_last {i : Int} {f : Int → Int → Bool} (hf : CmpI X op f) (h : WO X r E fun o E1 => ∃ j, o.get E1 = some (.int j) ∧ kb (f i j) E1) : WVC X i [op] [r] E kb := by
  intro Z H σ F Q he hk pins s pos u I ru
  refine PyProof.Rows.chain_last (thn (h Z H σ F (fun v H1 => ∃ j, v = .int j ∧ Q (.bl (f i j)) H1) he (fun o E1 Z1 H1 F1 G v ⟨j, g, q⟩ f1 rv => ?_) pins s I) fun v s1 ⟨x, H1, I1, r1, q1⟩ => ?_)
  · obtain ⟨G', r', _⟩ := rv.use f1.env g
    cases r'
    exact ⟨j, rfl, hk _ E1 Z1 H1 F1 q f1.nil⟩
  · obtain ⟨j, rfl, q⟩ := q1
    exact hf pins s1 σ H1 (.int i) (.int j) u v Q I1 ru r1 ⟨i, j, rfl, rfl, q⟩
theorem wvc_link {i : Int} {f : Int → Int → Bool} (hf : CmpI X op f) (h : WO X r E fun o E1 => ∃ j, o.get E1 = some (.int j) ∧ (f i j = true → WVC X j (op' :: ops) (r' :: rs) E1 kb) ∧ (f i j = false → kb false E1)) : WVC X i (op :: op' :: ops) (r :: r' :: rs) E kb := by
  intro Z H σ F Q he hk pins s pos u I ru
  show wpAny (model X.prog X.w) X.A (compareChain pos u (op :: op' :: ops) (eval r X.env :: eval r' X.env :: evalEach rs X.env)) (EP X pins σ Q) X.xe s
  refine PyProof.Rows.chain_link (thn (h Z H σ F (fun v H1 => ∃ j, v = .int j ∧ (f i j = true → wpVC X j (op' :: ops) (r' :: rs) σ H1 Q) ∧ (f i j = false → Q (.bl false) H1)) he (fun o E1 Z1 H1 F1 G v ⟨j, g, q1, q2⟩ f1 rv => ?_) pins s I) fun v s1 ⟨x, H1, I1, r1, q1⟩ => ?_)
  · obtain ⟨G', r', _⟩ := rv.use f1.env g
    cases r'
    exact ⟨j, rfl, fun ht => q1 ht Z1 H1 σ F1 Q f1.env fun b E2 Z2 H2 F2 k2 f2 => hk b E2 Z2 H2 F2 k2 (f1.then f2), fun ht => hk _ E1 Z1 H1 F1 (q2 ht) f1.nil⟩
  · obtain ⟨j, rfl, qt, qf⟩ := q1
    refine thn (hf pins s1 σ H1 (.int i) (.int j) u v (fun z H2 => z = .bl (f i j) ∧ H2 = H1) I1 ru r1 ⟨i, j, rfl, rfl, rfl, rfl⟩) fun c s2 ⟨z, H2, I2, r2, ez, e2⟩ => ?_
    subst ez
    subst e2
    cases r2
    refine wpAny_truthy_bool ?_
    cases hb : f i j with
    | true => rw [if_pos rfl]; exact qt hb pins s2 pos v I2 r1
    | false => rw [if_neg Bool.false_ne_true]; exact ⟨.bl false, H2, I2, rfl, qf hb⟩
theorem wo_chain {rs : List Expr} (h : WO X l E fun o E1 => ∃ i, o.get E1 = some (.int i) ∧ WVC X i (op1 :: op2 :: ops) (r1 :: r2 :: rs) E1 fun t E2 => k (.val (.bl t)) E2)
    (hm : lastMarks (op1 :: op2 :: ops) (r1 :: r2 :: rs) = false := by with_unfolding_all rfl) : WO X (.Compare l (op1 :: op2 :: ops) (r1 :: r2 :: rs) pos) E k := by
  intro Z H σ F Q he hk pins s I
  refine PyProof.Rows.Compare_chain (thn (h Z H σ F (fun v H1 => ∃ i, v = .int i ∧ wpVC X i (op1 :: op2 :: ops) (r1 :: r2 :: rs) σ H1 Q) he (fun o E1 Z1 H1 F1 G v ⟨i, g, q⟩ f1 rv => ?_) pins s I) fun v s1 ⟨x, H1, I1, rx, q1⟩ => ?_) hm
  · obtain ⟨G', r', _⟩ := rv.use f1.env g
    cases r'
    exact ⟨i, rfl, q Z1 H1 σ F1 Q f1.env fun b E2 Z2 H2 F2 k2 f2 => hk _ E2 Z2 H2 F2 [] _ k2 (f1.then f2) (.bl b)⟩
  · obtain ⟨i, rfl, q⟩ := q1
    exact q pins s1 pos v I1 rx
end

/-! ### more stores -/
section
variable {X : Cx} {n : List Nat} {e a b c : Expr} {E : EnvT} {ks : KS} {pos p pos' : Pos} {i j : Nat} {x y : Str}
/-- x += e, ints -/
theorem ws_augI {m : Int} (hN : X.N.Nodup) (hi : X.N[i]? = some x) (hE : E[i]? = some (some (.int m))) (hx : Loc X.env.scope x) (hn : i ∉ n) (h : WO X e E fun o E1 => ∃ m2, o.get E1 = some (.int m2) ∧ i < E1.length ∧ ks.nx (E1.set i (some (.int (m + m2)))))
    (hf : X.fn x = true ∨ X.env.scope.names.lookup x = some .local := by first | exact .inl rfl | exact .inr rfl | assumption) : WS X n (.AugAssign (.Name x pos') .Add e pos) E ks := by
  intro Z H σ F Dd he hk
  obtain ⟨v, G, R, hv, rv, _, _⟩ := he.r.get hE
  cases rv
  refine wpS_by (ps_aug hN hi hx pe_w ip_add hf) ⟨_, hv, h Z H σ F _ he fun o E1 Z1 H1 F1 G1 v1 ⟨m2, g, hl, q⟩ f r => ?_⟩
  obtain ⟨G', r', _⟩ := r.use f.env g
  cases r'
  obtain ⟨F', h1, h2⟩ := f.env.asg (i := i) (.int (m + m2)) f.env.nd (fun a h => nomatch h) hl
  exact ⟨m, m2, rfl, rfl, hk.nx _ Z1 H1 _ F' q ⟨h1, h1.nd, (fun a q => nomatch q), f.nil.st.sub fun a ha => (h2 a ha).elim (fun z => nomatch z) id, Pin.set hn⟩⟩
/-- x = y = e, of a thing that owns nothing -/
theorem ws_asg2 {px py : Pos} (hN : X.N.Nodup) (hi : X.N[i]? = some x) (hj : X.N[j]? = some y) (hx : Loc X.env.scope x) (hy : Loc X.env.scope y) (hni : i ∉ n) (hnj : j ∉ n)
    (h : WE X e E fun d E1 => Imm d ∧ i < E1.length ∧ j < E1.length ∧ ks.nx ((E1.set i (some d)).set j (some d)))
    (hf : X.fn x = true ∨ X.env.scope.names.lookup x = some .local := by first | exact .inl rfl | exact .inr rfl | assumption) (hf2 : X.fn y = true ∨ X.env.scope.names.lookup y = some .local := by first | exact .inl rfl | exact .inr rfl | assumption)
    (ha : (assignEach [.Name x px, .Name y py] X.env).map (·.2) = [assign (.Name x px) X.env, assign (.Name y py) X.env] := by rfl) (hw : swappedStores [.Name x px, .Name y py] e X.env = pure none := by rfl) :
    WS X n (.Assign [.Name x px, .Name y py] e pos) E ks := by
  intro Z H σ F Dd he hk
  refine wpS_by (ps_asg2 pe_w (pg_name hN hi hx hf) (pg_name hN hj hy hf2) ha hw) (h Z H σ F _ he fun o E1 Z1 H1 F1 G v ⟨d, eo, im, li, lj, q⟩ f r => ?_)
  subst eo
  have r0 : Rep X.K Z1 H1 d v [] := Rep.nils r im
  obtain ⟨F2, h1, m1⟩ := f.env.asg (i := i) r0 f.env.nd (fun a h => nomatch h) li
  obtain ⟨F3, h2, m2⟩ := h1.asg (i := j) r0 h1.nd (fun a h => nomatch h) (by rw [List.length_set]; exact lj)
  exact hk.nx _ Z1 H1 _ F3 q ⟨h2, h2.nd, (fun a q => nomatch q), f.nil.st.sub fun a ha => (m2 a ha).elim (fun z => nomatch z) fun z => (m1 a z).elim (fun z => nomatch z) id, (Pin.set hni).trans (Pin.set hnj)⟩
/-- x, y = a, b -/
theorem ws_par {px py pt pt2 : Pos} {kt k2 : Nat} (hc : X.calm = true) (hN : X.N.Nodup) (hi : X.N[i]? = some x) (hj : X.N[j]? = some y) (hij : i ≠ j) (hni : i ∉ n) (hnj : j ∉ n)
    (hx : X.env.scope.names.lookup x = some .local) (hy : X.env.scope.names.lookup y = some .local)
    (h : WA X [a, b] E fun os E1 => ∃ d1 d2, os = [.val d1, .val d2] ∧ i < E1.length ∧ j < E1.length ∧ ks.nx ((E1.set i (some d1)).set j (some d2)))
    (hw : swappedStores [.Tuple [.Name x px, .Name y py] kt pt] (.Tuple [a, b] k2 pt2) X.env = pure (some [x, y]))
    (hs : swapsWithSole [.Tuple [.Name x px, .Name y py] kt pt] (.Tuple [a, b] k2 pt2) pos.line X.env = pure false := by rfl) :
    WS X n (.Assign [.Tuple [.Name x px, .Name y py] kt pt] (.Tuple [a, b] k2 pt2) pos) E ks := by
  intro Z H σ F Dd he hk
  refine wpS_by (ps_par hc hN hi hj hij hx hy pa_w hw hs) (h Z H σ F _ he fun os E1 Z1 H1 F1 G vs ⟨d1, d2, eo, li, lj, q⟩ f rs => ?_)
  subst eo
  cases rs with
  | cons r1 rs =>
    cases rs with
    | cons r2 rs =>
      cases rs
      rename_i v1 G1 v2 G2
      have f' := f
      rw [List.append_nil] at f'
      have rr1 : Rep X.K Z1 H1 d1 v1 G1 := r1
      have rr2 : Rep X.K Z1 H1 d2 v2 G2 := r2
      have nd := f'.nd
      have ndr : (G2 ++ F1).Nodup := (List.Sublist.append_right (List.sublist_append_right G1 G2) F1).nodup nd
      have ndl : (G1 ++ F1).Nodup := (List.Sublist.append_right (List.sublist_append_left G1 G2) F1).nodup nd
      obtain ⟨F2, h1, m1⟩ := f'.env.asg (i := i) rr1 ndl (fun a ha => f'.nz a (List.mem_append_left _ ha)) li
      have n12 : ∀ a ∈ G2, a ∉ G1 := fun a ha hb => (List.nodup_append.mp (List.nodup_append.mp nd).1).2.2 a hb a ha rfl
      have ndr2 : (G2 ++ F2).Nodup := List.nodup_append.mpr ⟨(List.nodup_append.mp ndr).1, h1.nd, fun a ha b hb e => by
        subst e
        rcases m1 a hb with q | q
        · exact n12 a ha q
        · exact (List.nodup_append.mp ndr).2.2 a ha a q rfl⟩
      obtain ⟨F3, h2, m2⟩ := h1.asg (i := j) rr2 ndr2 (fun a ha => f'.nz a (List.mem_append_right _ ha)) (by rw [List.length_set]; exact lj)
      refine ⟨v1, v2, rfl, hk.nx _ Z1 H1 _ F3 q ⟨h2, h2.nd, (fun a q => nomatch q), f'.st.sub fun a ha => ?_, (Pin.set hni).trans (Pin.set hnj)⟩⟩
      rcases m2 a ha with z | z
      · exact List.mem_append_left _ (List.mem_append_right _ z)
      · exact (m1 a z).elim (fun w => List.mem_append_left _ (List.mem_append_left _ w)) (List.mem_append_right _)
end

/-! ### calls of the module's defs -/
/-- the def's object at f, its parameters -/
structure FdAt (K : PySem.W.Frag) (f : Addr) (fd : FuncData) (ps : List Str) : Prop where
  at_ : ∃ oc od osl, K.lookup f = some ⟨oc, od, .func fd, osl⟩
  ps : ps = fd.params.args.map (·.arg)
theorem FdAt.of {K : PySem.W.Frag} {x q : Str} {pa : Arguments} {b : List Stmt} {sc : Scope} {dvs : List V} {kws : List (Str × V)} {f : Addr} {fd : FuncData} {ps : List Str} (F : FunD K x q pa b sc dvs kws f fd) (h : ps = pa.args.map (·.arg)) : FdAt K f fd ps := by
  obtain ⟨oc, od, dV, kV, doc, pm, an, cdv, ct, osl, rfl, lk, _⟩ := F.ex
  exact ⟨⟨oc, od, osl, lk⟩, h⟩
/-- at x stands a def that keeps sp -/
structure Cal (P : Program) (w : World) (K : PySem.W.Frag) (mg : Str → Option Value) (base : Heap) (k : Nat) (x : Str) (sp : Sp) : Prop where
  ex : ∃ (f : Addr) (fd : FuncData) (ps : List Str), FnOk P w K mg base CX0 k f fd ps sp ∧ mg x = some (.ref f) ∧ PySem.W.keepIn K (.ref f) = true ∧ Binds K fd ps [] ∧ FdAt K f fd ps
section
variable {X : Cx} {E : EnvT} {kk : Opd → EnvT → Prop} {e : Expr} {es : List Expr} {S : Ct} {x : Str} {k j : Nat} {p pos : Pos}
theorem wo_c0 (c : Cal X.prog X.w X.K X.mg X.base k x (toSp X.K 0 S)) (hr : Room j X.A) (hk : k ≤ j) (hg : Gl X x)
    (h : WA X (e :: es) E fun os E1 => ∃ ds, valsOf os = some ds ∧ ∃ a, S.pre a ds ∧ ∀ d, S.post a d [] → kk (.val d) E1)
    (hdb : (x == ("__debug__" : Str)) = false := by decide) (he : starEach (e :: es) X.env = (false, eval e X.env) :: starEach es X.env := by rfl) (hpl : (backTo pos (starEach es X.env)).any (·.1) = false := by rfl) :
    WO X (.Call (.Name x p) (e :: es) [] pos) E kk := by
  obtain ⟨f, fd, ps, F, hm, kp, b, _⟩ := c.ex
  exact wo_call0 (pe_call F (hr.mono hk) hg hm kp b .nil pass0 pa_w hdb he hpl) h
theorem wo_c1 (c : Cal X.prog X.w X.K X.mg X.base k x (toSp X.K 1 S)) (hr : Room j X.A) (hk : k ≤ j) (hg : Gl X x)
    (h : WA X (e :: es) E fun os E1 => ∃ i os' d0 ds, os = .bor i :: os' ∧ E1[i]? = some (some d0) ∧ valsOf os' = some ds ∧ ∃ a, S.pre a (d0 :: ds) ∧ ∀ d d0', S.post a d [d0'] → kk (.val d) (E1.set i (some d0')))
    (hdb : (x == ("__debug__" : Str)) = false := by decide) (he : starEach (e :: es) X.env = (false, eval e X.env) :: starEach es X.env := by rfl) (hpl : (backTo pos (starEach es X.env)).any (·.1) = false := by rfl) :
    WO X (.Call (.Name x p) (e :: es) [] pos) E kk := by
  obtain ⟨f, fd, ps, F, hm, kp, b, _⟩ := c.ex
  exact wo_call1 (pe_call F (hr.mono hk) hg hm kp b .nil pass0 pa_w hdb he hpl) h
end
/-- a def of the module -/
structure Has (K : PySem.W.Frag) (mg : Str → Option Value) (x : Str) (st : Stmt) (ps : List Str) : Prop where
  ex : ∃ (f : Addr) (fd : FuncData), FunD K x x (defArgs st) (defBody st) (defScope st) [] [] f fd ∧ mg x = some (.ref f) ∧ Binds K fd ps []
open PyProof.Rows (envOfC) in
theorem cal_of {P : Program} {w : World} {K : PySem.W.Frag} {mg : Str → Option Value} {base : Heap} {x : Str} {st : Stmt} {N ps : List Str} {k pin : Nat} {S : Ct} (h : Has K mg x st ps) (sc : FnScope N ps (defScope st))
    (hlen : ∀ a ds, S.pre a ds → ds.length = ps.length) (hpin : pin ≤ ps.length)
    (body : ∀ (f : Addr) (cdv : Value) (A : Around) (outer : List Env) (s : Shared) (H : Hp) (E : XK), Room k (A.deeper (envOfC x (defScope st) s.heap.objs.size f cdv)) → ∀ (a : S.α) (ds : List D), S.pre a ds →
      (let X : Cx := (cxOf CX0 P w K mg base N x (defScope st) f cdv A outer s H E).nox
      WSs X (List.range pin) (defBody st) (ds.map some ++ List.replicate (N.length - ps.length) none)
        { nx := fun E' => ∃ ds', E'.take pin = ds'.map some ∧ S.post a .non ds', rt := fun d E' => ∃ ds', E'.take pin = ds'.map some ∧ S.post a d ds' })) (hps : ps = (defArgs st).args.map (·.arg) := by rfl) : Cal P w K mg base (k + 1) x (toSp K pin S) := by
  obtain ⟨f, fd, F, hm, b⟩ := h.ex
  exact ⟨f, fd, ps, fn_ok F sc hlen hpin (body f), hm, F.kp, b, .of F hps⟩
end DL

/-! a tuple sorted -/
namespace SrtO
open PySem PyProof.Rows Srt
section
variable {prog : Program} {w : World} {A : Around} {E : Value → Shared → Prop} {s : Shared}
/-- sorted of a tuple: collected by the rule for both sequences, then sorted as a list -/
theorem sorted_tupS {l : Addr} {vs : List Value} {ltv : Value → Value → Bool} {Q : Value → Shared → Prop} (O : Swo ltv) (hl : IsTup s.heap l vs.toArray) (small : vs.length ≤ sizeLine)
    (able : 2 ≤ vs.length → ∀ (s1 : Shared) (a : Addr), SortableO prog w A.in1.in1 s1 a vs ltv)
    (fin : ∀ (g h' : Heap) (out : List Value) (c : Nat), (∀ b o, s.heap.get? b = some o → g.get? b = some o) → (∀ b o, g.get? b = some o → h'.get? b = some o) → h'.get? g.objs.size = some (seqObj "list" out.toArray c) → Srtd ltv out → Stb ltv out vs → Q (.ref g.objs.size) { s with heap := h' }) :
    wpAny (model prog w) A (call (.builtin "sorted") [.ref l]) Q E s := by
  obtain ⟨ob, there, kind, _, cells⟩ := hl
  refine Calls.call_function_entry kind_sorted plain_sorted entry_sorted (args_sorted1 _) (show wpAny _ _ (Builtin.«sorted» _) _ _ _ from ?_)
  unfold Builtin.«sorted»
  refine wpAny_bind (m := checkCount "sorted" 1 1 _) (wpAny_pure (wpAny_bind (wpAny_collect_seq l (.inr rfl) there kind cells (fun g keep => ?_) (by simpa using small))))
  have back : vs.toArray.toList = vs := by simp
  rw [back]
  have made : (g.push (seqObj "list" vs.toArray 0)).get? g.objs.size = some (seqObj "list" vs.toArray 0) := Heap.get?_push_size _ rfl
  refine wpAny_bind (wpAny_newList (wpAny_bind (wpAny_holding (wpAny_call_entry slot_list_sort ⟨_, made, rfl⟩ entry_list_sort (list_sort_ord O made small (fun h2 => able h2 _ _) fun out s1 s2 => ⟨_, rfl, ?_⟩) (args_list_sort _)))) small)
  obtain ⟨c, told⟩ := sortedHeap_at (vs := vs) (out := out.toArray) made
  refine wpAny_pure ⟨_, rfl, fin g _ out c keep (fun b o e => ?_) told s1 s2⟩
  have lt := Heap.lt_size e
  show (sortedHeap (g.push (seqObj "list" vs.toArray 0)) g.objs.size vs out.toArray).get? b = some o
  rw [sortedHeap_old (Nat.ne_of_lt lt) (by rw [size_push']; exact Nat.lt_succ_of_lt lt), Heap.get?_push_of_some _ e]
end
end SrtO
namespace DL
open PySem PySem.Spec L2
variable [LamT]
section
variable {X : Cx}
/-- sorted(tuple of ints) -/
def rSortT (K : PySem.W.Frag) : List V → Hp → VK → Prop := fun vs H Q => ∃ (a : Addr) (ns : List Int), vs = [V.ref a] ∧ SqT K H a (ns.map V.int) ∧
  ∀ (ns' : List Int) (p : Addr), ns'.Perm ns → ns'.Pairwise (· ≤ ·) → H p = none → Q (.ref p) (upd H p (.lst (ns'.map V.int)))
theorem cr_sortT : CallR X (.builtin "sorted") (rSortT X.K) := by
  intro pins s σ H vs us Q I r h
  obtain ⟨a, ns, rfl, hs, q⟩ := h
  obtain ⟨its, rv, hl, hz⟩ := I.tuple hs
  rw [Vals.ref1 r]
  have hi := rv.ints
  refine SrtO.sorted_tupS SrtO.swo_int hl (by rw [← rv.length]; exact hz) (fun h2 s1 a' => SrtO.ints_sortable hi h2) fun g h' out c k1 k2 told h1 h2 => ?_
  obtain ⟨q1, q2, q3⟩ := SrtO.ints_out hi h1 h2
  have lz : ((out.map SrtO.iv).map V.int).length ≤ sizeLine := by
    rw [List.length_map] at hz ⊢
    rw [q2.length_eq]
    exact hz
  have I1 : Inv X pins σ H { s with heap := g } := I.kept (t' := s.toks) k1
  exact ⟨.ref _, upd H g.objs.size (.lst ((out.map SrtO.iv).map V.int)), I1.laid (t' := s.toks) k2 (Nat.le_refl _) ⟨lz, out, c, vals_of_ints q1, told⟩, rfl, q _ _ q2 q3 (I1.hok.fresh (Nat.le_refl _))⟩
/-- tuple(list), the new object known whole -/
def rTupF (K : PySem.W.Frag) : List V → Hp → VK → Prop := fun vs H Q => ∃ (p : Addr) (xs : List V), vs = [V.ref p] ∧ SqL K H p xs ∧ ∀ q ob, H q = none → ob.dict = none → Q (.ref q) (upd H q (.frz ob (.tup xs)))
theorem cr_tupF : CallR X (.type "tuple") (rTupF X.K) := by
  intro pins s σ H vs us Q I r h
  obtain ⟨p, xs, rfl, hs, q⟩ := h
  obtain ⟨its, rv, pl, hz⟩ := I.list hs
  rw [Vals.ref1 r]
  refine call_tuple_list pl.isList (fun h' hk => ?_) (by rw [List.size_toArray, ← rv.length]; exact hz)
  have I1 : Inv X pins σ H { s with heap := h' } := I.kept (t' := s.toks) hk
  have I2 : Inv X pins σ (upd H h'.objs.size (.frz { cls := .type "tuple", data := .seq its.toArray } (.tup xs))) { s with heap := h'.push { cls := .type "tuple", data := .seq its.toArray } } :=
    I1.laid (t' := s.toks) (fun b o e => Heap.get?_push_of_some _ e) (Nat.le_refl _) ⟨Heap.get?_push_size _ rfl, (show ObjOk X.prog X.w _ _ _ (.tup xs) from ⟨hz, its, rv, PyProof.Rows.IsTup.new _ _⟩)⟩
  exact ⟨.ref h'.objs.size, _, I2, rfl, q _ _ (I1.hok.fresh (Nat.le_refl _)) rfl⟩
end
section
variable {X : Cx} {a e o : Expr} {E : EnvT} {k : Opd → EnvT → Prop} {pos apos p p2 p3 : Pos}
theorem wo_tupleF (hg : Gl X "tuple") (hm : X.mg "tuple" = none) (h : WO X a E fun o E1 => ∃ ds, (o.get E1).bind D.lseq = some ds ∧ Imms ds ∧ k (.val (.pt ds)) E1) (hs : starEach [a] X.env = (false, eval a X.env) :: starEach [] X.env := by rfl) : WO X (.Call (.Name "tuple" p) [a] [] pos) E k :=
  wo_b1 (pe_callTy cr_tupF hg hm (by decide +kernel) pa_w (he := hs)) (WO.mono h fun o E1 ⟨ds, g1, im, kk⟩ => by
    cases g : o.get E1 with
    | none => rw [g] at g1; simp at g1
    | some d1 =>
      rw [g] at g1
      refine ⟨d1, rfl, _, fun Z H v G rv => GivesP.one fun Q q => ?_, fun d e => by rw [e]; exact kk⟩
      obtain ⟨x, vs, G', rfl, hs, rs⟩ := rv.lseq (by simpa using g1)
      exact ⟨x, vs, rfl, hs, fun l ob hl hd => q _ _ [] (.pt upd_same hd ((rs.nils im).grow (Grow.new0 hl))) (Grow.new0 hl)⟩) hs
/-- t.index(i), a tuple known whole -/
def tTIx (to : TE) (t : TA) : TE := fun σ H Q => to σ H fun x H1 => ∃ (a : Addr) (ob : Obj) (ns : List Int), x = .ref a ∧ H1 a = some (.frz ob (.tup (ns.map V.int))) ∧ ob.dict = none ∧ t σ H1 fun xs H2 => ∃ i : Int, xs = [.int i] ∧ i ∈ ns ∧ H2 a = some (.frz ob (.tup (ns.map V.int))) ∧ Q (.int (ns.idxOf i : Nat)) H2
theorem pe_tix {to : TE} {t : TA} (ho : PE X o to) (ha : PA X [e] t)
    (hbase : attributeBase o "index" X.env (eval o X.env) = eval o X.env := by rfl)
    (hfew : ((backTo pos (starEach [e] X.env)).all (fun x => !x.1) && (backToKw pos (keywordEach [] X.env)).all (fun x => x.1.isSome)
      && decide ([e].length + ([] : List Keyword).length + (if ([] : List Keyword).isEmpty then 0 else 1) < 30)) = true := by rfl)
    (hline : (apos.endLine == pos.line) = true := by rfl) (hs : starEach [e] X.env = (false, eval e X.env) :: starEach [] X.env := by rfl) :
    PE X (.Call (.Attribute o "index" apos) [e] [] pos) (tTIx to t) := by
  refine ⟨fun pins s σ H Q I h => ?_⟩
  refine wpAny_Call_method_late hbase hfew hline rfl (thn (ho.run pins s σ H _ I h) fun v s1 ⟨x, H1, I1, r1, a, ob, ns, ex, hH, hd, q1⟩ => ?_)
  subst ex
  cases r1
  obtain ⟨hob, hz, its, rv, tp⟩ := (show ObjOk X.prog X.w H1 s1.heap a (.frz ob (.tup (ns.map V.int))) from I1.hok a _ hH)
  refine ⟨"tuple", "tuple.index", PySem.F.plainAttrs_tuple, PySem.F.slot_tuple_index, PySem.F.type_tuple_index, tp.typeIs, fun b eb => by cases eb; exact ⟨ob, hob, hd⟩, ?_⟩
  have hA := ha.run pos pins s1 σ H1 _ I1 q1
  rw [hs] at hA ⊢
  refine Calls.callWith_builtin (by rfl) (Calls.evalArgs_plain ?_)
  refine thn hA fun us s2 ⟨vs, H2, I2, r2, i, ev, hi, hH2, q2⟩ => ?_
  subst ev
  obtain ⟨u, eu, ru⟩ := Vals.one r2
  subst eu
  obtain ⟨t', rfl⟩ := ru
  obtain ⟨_, _, its2, rv2, tp2⟩ := (show ObjOk X.prog X.w H2 s2.heap a (.frz ob (.tup (ns.map V.int))) from I2.hok a _ hH2)
  exact PySem.SeqAt.tuple_index_ints tp2 rv2.ints hi ⟨.int _, H2, I2.tok _, ⟨_, rfl⟩, q2⟩
theorem wo_tix (h : WO X o E fun o1 E1 => ∃ ns : List Int, o1.get E1 = some (.pt (ns.map D.int)) ∧ WO X e E1 fun o2 E2 => ∃ i, o2.get E2 = some (.int i) ∧ i ∈ ns ∧ k (.val (.int (ns.idxOf i : Nat))) E2)
    (hbase : attributeBase o "index" X.env (eval o X.env) = eval o X.env := by rfl)
    (hfew : ((backTo pos (starEach [e] X.env)).all (fun x => !x.1) && (backToKw pos (keywordEach [] X.env)).all (fun x => x.1.isSome)
      && decide ([e].length + ([] : List Keyword).length + (if ([] : List Keyword).isEmpty then 0 else 1) < 30)) = true := by rfl)
    (hline : (apos.endLine == pos.line) = true := by rfl) (hs : starEach [e] X.env = (false, eval e X.env) :: starEach [] X.env := by rfl) :
    WO X (.Call (.Attribute o "index" apos) [e] [] pos) E k := by
  intro Z H σ F Q he hk
  refine wpE_by (pe_tix pe_w pa_w hbase hfew hline hs) (h Z H σ F _ he fun o1 E1 Z1 H1 F1 G1 v1 ⟨ns, g0, q⟩ f1 r1 => ?_)
  obtain ⟨G0, rr0, _⟩ := r1.use f1.env g0
  cases rr0 with
  | pt hH hd rs =>
    rename_i a ob vs
    have ev := rs.ints
    subst ev
    refine ⟨a, ob, ns, rfl, hH, hd, ?_⟩
    have hA : WA X [e] E1 fun os E2 => ∃ o2, os = [o2] ∧ ∃ i, o2.get E2 = some (.int i) ∧ i ∈ ns ∧ k (.val (.int (ns.idxOf i : Nat))) E2 := wa_cons (WO.mono q fun o E2 q => wa_nil ⟨o, rfl, q⟩) hs
    refine hA Z1 H1 σ F1 _ f1.env fun os E2 Z2 H2 F2 G2 ws ⟨o2, eo, i, g2, hi, kk⟩ f2 rs2 => ?_
    subst eo
    cases rs2 with
    | cons r2 rn =>
      cases rn
      obtain ⟨G5, rr2, _⟩ := r2.use f2.env g2
      cases rr2
      exact ⟨i, rfl, hi, f2.st.ft _ _ _ hH, hk _ E2 Z2 H2 F2 [] _ kk (f1.then f2).nil (.int _)⟩
/-- xs.index(i), a list of ints -/
theorem idxOf_first {ns : List Int} {i : Int} (h : i ∈ ns) : ns[ns.idxOf i]? = some i ∧ ∀ m, m < ns.idxOf i → ns[m]? ≠ some i := by
  induction ns with
  | nil => cases h
  | cons a ns ih =>
    rw [List.idxOf_cons]
    by_cases e : a = i
    · subst e
      simp
    · have e' : (a == i) = false := beq_eq_false_iff_ne.mpr e
      rw [e', cond_false]
      have hm : i ∈ ns := by
        rcases List.mem_cons.mp h with q | q
        · exact absurd q.symm e
        · exact q
      obtain ⟨h1, h2⟩ := ih hm
      refine ⟨by simpa using h1, fun m hm => ?_⟩
      cases m with
      | zero => simpa using e
      | succ m => simpa using h2 m (by omega)
theorem wo_indexI (h : WO X o E fun o1 E1 => ∃ ds0, (o1.get E1).bind D.lseq = some ds0 ∧ WO X e E1 fun o2 E2 => ∃ (ns : List Int) (i : Int), (o1.get E2).bind D.lseq = some (ns.map D.int) ∧ o2.get E2 = some (.int i) ∧ i ∈ ns ∧ k (.val (.int (ns.idxOf i : Nat))) E2)
    (hb : PE X (.Call (.Attribute o "index" apos) [e] [] pos) (tBM X.K "list" (rIndex X.K) (wpE X o) (wpA X [e]))) (hs : starEach [e] X.env = (false, eval e X.env) :: starEach [] X.env := by rfl) :
    WO X (.Call (.Attribute o "index" apos) [e] [] pos) E k :=
  wo_index (WO.mono h fun o1 E1 ⟨ds0, g0, q⟩ => ⟨ds0, g0, WO.mono q fun o2 E2 ⟨ns, i, g1, g2, hi, kk⟩ => by
    obtain ⟨h1, h2⟩ := idxOf_first hi
    refine ⟨ns.map D.int, .int i, ns.idxOf i, .int i, g1, g2, rfl, ?_, by rw [List.getElem?_map, h1]; rfl, by rw [deq_int]; exact decide_eq_true rfl, fun m z' hm hz => ?_, kk⟩
    · rw [List.all_map]
      exact List.all_eq_true.mpr fun _ _ => rfl
    · rw [List.getElem?_map] at hz
      cases hn : ns[m]? with
      | none => rw [hn] at hz; cases hz
      | some y =>
        rw [hn] at hz
        cases hz
        rw [deq_int]
        exact decide_eq_false fun ey => h2 m hm (by rw [hn, ey])⟩) hb hs
/-- xs[::-1] -/
theorem wo_revL {kx : Nat} (h : WO X e E fun o E1 => ∃ ds, (o.get E1).bind D.lseq = some ds ∧ Imms ds ∧ k (.val (.lst ds.reverse)) E1) : WO X (.Subscript e (.Slice none none (some (.UnaryOp .USub (.Constant (.int 1) kx p) p2)) p3) pos) E k := by
  intro Z H σ F Q he hk
  refine wpE_by (pe_revL pe_w) (h Z H σ F _ he fun o E1 Z1 H1 F1 G v ⟨ds, g1, im, kk⟩ f1 r1 => ?_)
  obtain ⟨d1, gd, gs⟩ := seq_of g1
  obtain ⟨G', r', _⟩ := r1.use f1.env gd
  obtain ⟨a, vs, G3, rfl, hs, rs⟩ := r'.lseq gs
  refine ⟨a, vs, rfl, hs, fun p hp => ?_⟩
  have rs0 := rs.nils im
  have rv : Reps X.K Z1 H1 ds.reverse vs.reverse [] := by
    clear hk kk g1 gs hs r' gd
    generalize hG : ([] : List Addr) = G0 at rs0
    have : ∀ {ds : List D} {vs : List V}, Reps X.K Z1 H1 ds vs [] → Imms ds → Reps X.K Z1 H1 ds.reverse vs.reverse [] := by
      intro ds
      induction ds with
      | nil => intro vs r _; cases r; exact .nil
      | cons d ds ih =>
        intro vs r im
        generalize hG : ([] : List Addr) = G0 at r
        cases r with
        | cons r1 rs =>
          have e := List.append_eq_nil_iff.mp hG.symm
          rename_i v F1 vs G1
          obtain ⟨e1, e2⟩ := e
          subst e1
          subst e2
          rw [List.reverse_cons, List.reverse_cons]
          exact (ih rs im.2).app (Reps.one r1)
    subst hG
    exact this rs0 im
  exact hk _ E1 Z1 _ F1 [p] _ kk (f1.nil.grow (Grow.new hp)) (.lst upd_same (rv.grow (Grow.new hp)))
end
end DL

namespace DL
open PySem PySem.Spec L2
variable [LamT]
section
variable {X : Cx} {a b e o : Expr} {E : EnvT} {k : Opd → EnvT → Prop} {pos apos p p2 p3 : Pos}
theorem wo_isi2 (hg : Gl X "isinstance") (hm : X.mg "isinstance" = none) (h : WO X a E fun o1 E1 => WO X b E1 fun o2 E2 => ∃ d t T r, o1.get E2 = some d ∧ d.ty = some t ∧ o2 = .val (.op (.ty T)) ∧ kitB t T = some r ∧ k (.val (.bl r)) E2)
    (hs : starEach [a, b] X.env = (false, eval a X.env) :: starEach [b] X.env := by rfl) (hs2 : starEach [b] X.env = (false, eval b X.env) :: starEach [] X.env := by rfl) : WO X (.Call (.Name "isinstance" p) [a, b] [] pos) E k :=
  wo_b2 (pe_callB call_isi hg hm (by decide +kernel) pa_w (he := hs) (hpl := by rw [hs2]; rfl)) (WO.mono h fun o1 E1 q => WO.mono q fun o2 E2 ⟨d, t, T, r, g1, ht, g2, hb, kk⟩ => by
    subst g2
    exact ⟨d, .op (.ty T), g1, rfl, _, fun Z H v1 v2 G1 G2 r1 r2 => GivesP.one fun Q q => by
      cases r2
      exact ⟨v1, _, _, _, r, rfl, .ty T, r1.ty ht, kit_ty hb, q _ H [] (.bl _) Grow.refl⟩, fun d e => by rw [e]; exact kk⟩) hs hs2
theorem kit_ii : kitB "int" "int" = some true := by decide +kernel
theorem kit_ib : kitB "int" "bool" = some false := by decide +kernel
theorem kit_it : kitB "int" "tuple" = some false := by decide +kernel
theorem kit_tt : kitB "tuple" "tuple" = some true := by decide +kernel
theorem kit_ti : kitB "tuple" "int" = some false := by decide +kernel
theorem kit_bb : kitB "bool" "bool" = some true := by decide +kernel
theorem kit_bi : kitB "bool" "int" = some true := by decide +kernel
theorem kit_ll : kitB "list" "list" = some true := by decide +kernel
theorem kit_dd : kitB "dict" "dict" = some true := by decide +kernel
theorem kit_ss : kitB "str" "str" = some true := by decide +kernel
theorem wo_tyn {x : Str} {T : String} (hg : Gl X x) (hm : X.mg x = none) (hv : bootBuiltins x = some (.type T)) (h : k (.val (.op (.ty T))) E) (hn : x ≠ "__name__" := by decide) (hd : (x == ("__debug__" : Str)) = false := by decide) : WO X (.Name x pos) E k := wo_bltn (v := .ty T) hg hm hv rfl h hn hd
/-- a module's int -/
theorem wo_gint {x : Str} {i : Int} {t : Tok} (hg : Gl X x) (hm : X.mg x = some (.int i t)) (h : k (.val (.int i)) E) (hd : (x == ("__debug__" : Str)) = false := by decide) : WO X (.Name x pos) E k :=
  wo_glob (v := .int i) hg hm ⟨t, rfl⟩ (fun _ _ => .int i) h hd
end
/-! ### lists that stay while they are walked -/
section
variable {K : PySem.W.Frag} {Z1 : Addr → Prop} {H1 : Hp} {σ : Sl} {F1 G : List Addr} {E1 : EnvT} {o : Opd} {d1 : D} {ds : List D} {a : Addr} {w : List (Nat × D)}
theorem OpdR.stay (he : EnvS K Z1 H1 E1 σ F1) (r1 : OpdR K Z1 H1 σ o (.ref a) G) (gd : o.get E1 = some d1) (gs : d1.lseq = some ds) (im : Imms ds) (off : ∀ x ∈ G, x ∉ F1) (sub : ∀ p ∈ watch E1 o, p ∈ w) :
    ∀ (E' : EnvT) (Z' : Addr → Prop) (H' : Hp) (σ' : Sl) (F' G4 : List Addr), FinS K (w.map (·.1)) Z1 H1 σ F1 E' Z' H' σ' F' G4 → (∀ p ∈ w, E'[p.1]? = some (some p.2)) → ∃ vs, SqL K H' a vs ∧ Reps K Z' H' ds vs [] := by
  intro E' Z' H' σ' F' G4 fs hE
  cases o with
  | val d2 =>
    cases gd
    have hr : Rep K Z' H' d1 (.ref a) G := Rep.step fs.st r1 off
    obtain ⟨a2, vs2, G5, e2, hs2, rs2⟩ := hr.lseq gs
    cases e2
    exact ⟨vs2, hs2, rs2.nils im⟩
  | bor i =>
    have hg : E1[i]?.join = some d1 := gd
    have hv : σ[i]? = some (some (.ref a)) := r1.1
    have hi0 := sub (i, (E1[i]?.join).getD .non) (by simp [watch])
    have hi' := hE _ hi0
    rw [hg] at hi'
    obtain ⟨v2, G5, R5, h1, h2, _⟩ := fs.env.r.get (i := i) (d := d1) hi'
    have hp : σ'[i]? = σ[i]? := fs.pin i (List.mem_map.mpr ⟨_, hi0, rfl⟩)
    rw [hp, hv] at h1
    cases h1
    obtain ⟨a2, vs2, G6, e2, hs2, rs2⟩ := h2.lseq gs
    cases e2
    exact ⟨vs2, hs2, rs2.nils im⟩
end
section
variable {X : Cx} {a b : Expr} {E : EnvT} {pos p : Pos}
end
end DL

namespace Ln
def insA (l : List Int) (p v : Int) : List Int := l.take (l.idxOf p + 1) ++ [v] ++ l.drop (l.idxOf p + 1)
def par (qs : List Int) (x : Int) : Int := qs.getD (x - 1).toNat 0
def lineN (qs : List Int) : Nat → List Int
  | 0 => [0]
  | n + 1 => insA (lineN qs n) (qs.getD n 0) ((n : Int) + 1)
/-- a tree of versions -/
def Good (qs : List Int) : Prop := qs.length ≤ 1000 ∧ ∀ (j : Nat) (q : Int), qs[j]? = some q → 0 ≤ q ∧ q ≤ (j : Int)
theorem idx_split {A C : List Int} {p : Int} (h : p ∉ A) : (A ++ p :: C).idxOf p = A.length := by
  rw [List.idxOf_append, if_neg h, List.idxOf_cons_self]
  omega
theorem insA_split {A C : List Int} {p v : Int} (h : p ∉ A) : insA (A ++ p :: C) p v = A ++ p :: v :: C := by
  unfold insA
  rw [idx_split h]
  have e : A ++ p :: C = (A ++ [p]) ++ C := by simp
  have l : (A ++ [p]).length = A.length + 1 := by simp
  rw [e, ← l, List.take_left, List.drop_left]
  simp
theorem split_of {l : List Int} {p : Int} (h : p ∈ l) : ∃ A C, l = A ++ p :: C ∧ p ∉ A := List.eq_append_cons_of_mem h
theorem good_get {qs : List Int} (g : Good qs) {n : Nat} (h : n < qs.length) : 0 ≤ qs.getD n 0 ∧ qs.getD n 0 ≤ (n : Int) := by
  have e : qs[n]? = some (qs.getD n 0) := by rw [List.getD_eq_getElem?_getD, List.getElem?_eq_getElem h]; rfl
  exact g.2 n _ e
structure Whole (n : Nat) (l : List Int) : Prop where
  mem : ∀ x, x ∈ l ↔ 0 ≤ x ∧ x ≤ (n : Int)
  nd : l.Nodup
  len : l.length = n + 1
theorem whole {qs : List Int} (g : Good qs) : ∀ {n : Nat}, n ≤ qs.length → Whole n (lineN qs n)
  | 0, _ => ⟨fun x => by
      show x ∈ [(0 : Int)] ↔ _
      rw [List.mem_singleton]
      omega, by simp [lineN], rfl⟩
  | n + 1, h => by
    have ih := whole g (n := n) (by omega)
    obtain ⟨h0, h1⟩ := good_get g (n := n) (by omega)
    obtain ⟨A, C, e, na⟩ := split_of ((ih.mem (qs.getD n 0)).mpr ⟨h0, h1⟩)
    show Whole (n + 1) (insA (lineN qs n) (qs.getD n 0) ((n : Int) + 1))
    have pm : (A ++ qs.getD n 0 :: ((n : Int) + 1) :: C).Perm (((n : Int) + 1) :: (A ++ qs.getD n 0 :: C)) := by
      have q := List.perm_middle (l₁ := A ++ [qs.getD n 0]) (a := (n : Int) + 1) (l₂ := C)
      simpa using q
    have m := ih.mem
    have nd := ih.nd
    have ln := ih.len
    rw [e] at m nd ln
    rw [e, insA_split na]
    refine ⟨fun x => ?_, ?_, ?_⟩
    · rw [pm.mem_iff, List.mem_cons, m x]
      push_cast
      omega
    · rw [pm.nodup_iff, List.nodup_cons]
      refine ⟨fun q => ?_, nd⟩
      have := (m _).mp q
      omega
    · rw [pm.length_eq, List.length_cons, ln]
/-! ### the way up -/
def wayF (qs : List Int) : Nat → Int → List Int
  | 0, x => [x]
  | f + 1, x => if x = 0 then [x] else x :: wayF qs f (par qs x)
def way (qs : List Int) (x : Int) : List Int := wayF qs x.toNat x
theorem par_lt {qs : List Int} (g : Good qs) {x : Int} (h : 0 < x) (h2 : x ≤ qs.length) : 0 ≤ par qs x ∧ par qs x < x := by
  have q := good_get g (n := (x - 1).toNat) (by omega)
  unfold par
  omega
theorem way_fuel {qs : List Int} (g : Good qs) : ∀ (f : Nat) (x : Int), 0 ≤ x → x ≤ qs.length → x.toNat ≤ f → wayF qs f x = way qs x := by
  have key : ∀ (n : Nat) (x : Int) (f f' : Nat), x.toNat ≤ n → 0 ≤ x → x ≤ qs.length → x.toNat ≤ f → x.toNat ≤ f' → wayF qs f x = wayF qs f' x := by
    intro n
    induction n with
    | zero =>
      intro x f f' h h0 h1 h2 h3
      have e : x = 0 := by omega
      subst e
      cases f <;> cases f' <;> simp [wayF]
    | succ n ih =>
      intro x f f' h h0 h1 h2 h3
      by_cases e : x = 0
      · subst e
        cases f <;> cases f' <;> simp [wayF]
      · obtain ⟨p0, p1⟩ := par_lt g (x := x) (by omega) h1
        cases f with
        | zero => omega
        | succ f =>
          cases f' with
          | zero => omega
          | succ f' =>
            rw [wayF, wayF, if_neg e, if_neg e, ih (par qs x) f f' (by omega) p0 (by omega) (by omega) (by omega)]
  intro f x h0 h1 h2
  exact key _ x f x.toNat (Nat.le_refl _) h0 h1 h2 (Nat.le_refl _)
theorem way_zero {qs : List Int} : way qs 0 = [0] := rfl
theorem way_pos {qs : List Int} (g : Good qs) {x : Int} (h : 0 < x) (h2 : x ≤ qs.length) : way qs x = x :: way qs (par qs x) := by
  obtain ⟨p0, p1⟩ := par_lt g h h2
  obtain ⟨n, e⟩ : ∃ n, x.toNat = n + 1 := ⟨x.toNat - 1, by omega⟩
  unfold way
  rw [e, wayF, if_neg (by omega), way_fuel g n _ p0 (by omega) (by omega)]
  rfl
/-! ### the blocks of a line -/
structure Blk (qs : List Int) (n : Nat) (l : List Int) (v : Int) (A D B : List Int) : Prop where
  eq : l = A ++ v :: (D ++ B)
  gt : ∀ x ∈ D, v < x
  lt : ∀ b, B.head? = some b → b < v
  ds : ∀ x, 0 ≤ x → x ≤ (n : Int) → (x ∈ v :: D ↔ v ∈ way qs x)
  ch : ∀ c, 0 < c → c ≤ (n : Int) → par qs c = v → (∀ c', c < c' → c' ≤ (n : Int) → par qs c' ≠ v) → D.head? = some c
  sb : ∀ c, 0 < c → c < v → par qs c = par qs v → (∀ c', c < c' → c' < v → par qs c' ≠ par qs v) → B.head? = some c
theorem head_app {A C : List Int} {p v : Int} : (A ++ p :: v :: C).head? = (A ++ p :: C).head? := by
  cases A <;> rfl
theorem par_succ {qs : List Int} {n : Nat} : par qs ((n : Int) + 1) = qs.getD n 0 := by
  unfold par
  have e : ((n : Int) + 1 - 1).toNat = n := by omega
  rw [e]
theorem blocks {qs : List Int} (g : Good qs) : ∀ {n : Nat}, n ≤ qs.length → ∀ v : Int, 0 ≤ v → v ≤ n → ∃ A D B, Blk qs n (lineN qs n) v A D B
  | 0, _, v, h0, h1 => by
    have e : v = 0 := by omega
    subst e
    refine ⟨[], [], [], rfl, (fun x h => nomatch h), (fun b h => nomatch h), fun x hx hx2 => ?_, fun c h2 h3 => by omega, fun c h2 h3 => by omega⟩
    have e : x = 0 := by omega
    subst e
    rw [way_zero]
  | n + 1, h, v, h0, h1 => by
    have W := whole g (n := n) (by omega)
    obtain ⟨p0, p1⟩ := good_get g (n := n) (by omega)
    have hp : qs.getD n 0 = par qs ((n : Int) + 1) := par_succ.symm
    have wn : way qs ((n : Int) + 1) = ((n : Int) + 1) :: way qs (qs.getD n 0) := by rw [way_pos g (by omega) (by omega), ← hp]
    show ∃ A D B, Blk qs (n + 1) (insA (lineN qs n) (qs.getD n 0) ((n : Int) + 1)) v A D B
    generalize hpp : qs.getD n 0 = p at *
    have pm : p ∈ lineN qs n := (W.mem p).mpr ⟨p0, p1⟩
    by_cases hv : v = (n : Int) + 1
    · subst hv
      obtain ⟨A, D, B, b⟩ := blocks g (n := n) (by omega) p p0 (by omega)
      have nd := W.nd
      rw [b.eq] at nd
      have na : p ∉ A := fun q => (List.nodup_append.mp nd).2.2 p q p List.mem_cons_self rfl
      have mm : ∀ x ∈ D ++ B, x ≤ (n : Int) := fun x hx => ((W.mem x).mp (by rw [b.eq]; exact List.mem_append_right _ (List.mem_cons_of_mem _ hx))).2
      refine ⟨A ++ [p], [], D ++ B, by rw [b.eq, insA_split na]; simp, (fun x h => nomatch h), fun x hx => ?_, fun x hx hx2 => ?_, fun c c0 c1 c2 c3 => ?_, fun c c0 c1 c2 c3 => ?_⟩
      · have := mm x (List.mem_of_head? hx)
        omega
      · rw [List.mem_singleton]
        constructor
        · intro e
          subst e
          rw [wn]
          exact List.mem_cons_self
        · intro e
          by_cases q : x = (n : Int) + 1
          · exact q
          · exfalso
            have key : ∀ (k : Nat) (y : Int), y.toNat ≤ k → 0 ≤ y → y ≤ (n : Int) → ∀ z ∈ way qs y, z ≤ y := by
              intro k
              induction k with
              | zero =>
                intro y hy y0 y1 z hz
                have e : y = 0 := by omega
                subst e
                rw [way_zero, List.mem_singleton] at hz
                omega
              | succ k ih =>
                intro y hy y0 y1 z hz
                by_cases e : y = 0
                · subst e
                  rw [way_zero, List.mem_singleton] at hz
                  omega
                · rw [way_pos g (by omega) (by omega), List.mem_cons] at hz
                  obtain ⟨q0, q1⟩ := par_lt g (x := y) (by omega) (by omega)
                  rcases hz with z1 | z1
                  · omega
                  · have := ih (par qs y) (by omega) q0 (by omega) z z1
                    omega
            have := key x.toNat x (Nat.le_refl _) hx (by push_cast at hx2; omega) _ e
            push_cast at hx2
            omega
      · exfalso
        push_cast at c1
        obtain ⟨q0, q1⟩ := par_lt g c0 (by omega)
        omega
      · rw [← hp] at c2 c3
        have := b.ch c c0 (by omega) c2 fun c' h1 h2 => c3 c' h1 (by omega)
        cases D with
        | nil => cases this
        | cons d D => exact this
    · have hv' : v ≤ (n : Int) := by push_cast at h1; omega
      obtain ⟨A, D, B, b⟩ := blocks g (n := n) (by omega) v h0 hv'
      have nd := W.nd
      have pm' := pm
      rw [b.eq] at nd pm'
      have ndA := (List.nodup_append.mp nd).2.2
      have ndR := (List.nodup_append.mp nd).2.1
      have ndv := List.nodup_cons.mp ndR
      have ndDB := List.nodup_append.mp ndv.2
      have descN : ((n : Int) + 1 ∈ way qs ((n : Int) + 1)) := by rw [wn]; exact List.mem_cons_self
      have dsp : v ∈ way qs ((n : Int) + 1) ↔ p ∈ v :: D := by
        rw [wn, List.mem_cons, b.ds p p0 p1]
        constructor
        · rintro (q | q)
          · exact absurd q hv
          · exact q
        · exact .inr
      have chs : ∀ {D' : List Int}, p ≠ v → D'.head? = D.head? → ∀ c, 0 < c → c ≤ ((n + 1 : Nat) : Int) → par qs c = v → (∀ c', c < c' → c' ≤ ((n + 1 : Nat) : Int) → par qs c' ≠ v) → D'.head? = some c := by
        intro D' hne hh c c0 c1 c2 c3
        rw [hh]
        have cn : c ≠ (n : Int) + 1 := fun e => by
          rw [e, ← hp] at c2
          exact hne c2
        exact b.ch c c0 (by push_cast at c1; omega) c2 fun c' h1 h2 => c3 c' h1 (by push_cast; omega)
      rcases List.mem_append.mp pm' with q | q
      · obtain ⟨A1, A2, e, na⟩ := split_of q
        subst e
        have hpD : p ∉ v :: D := fun z => ndA p q p (by rcases List.mem_cons.mp z with y | y; exact List.mem_cons.mpr (.inl y); exact List.mem_cons_of_mem _ (List.mem_append_left _ y)) rfl
        refine ⟨A1 ++ p :: ((n : Int) + 1) :: A2, D, B, ?_, b.gt, b.lt, fun x hx hx2 => ?_, chs (fun e => hpD (by rw [e]; exact List.mem_cons_self)) rfl, b.sb⟩
        · rw [b.eq]
          have e2 : A1 ++ p :: A2 ++ v :: (D ++ B) = A1 ++ p :: (A2 ++ v :: (D ++ B)) := by simp
          rw [e2, insA_split na]
          simp
        · by_cases e : x = (n : Int) + 1
          · subst e
            rw [dsp]
            refine ⟨fun z => ?_, fun z => absurd z hpD⟩
            exfalso
            have := ((W.mem _).mp (show (n : Int) + 1 ∈ lineN qs n from by
              rw [b.eq]
              refine List.mem_append_right _ ?_
              rcases List.mem_cons.mp z with y | y
              · exact List.mem_cons.mpr (.inl y)
              · exact List.mem_cons_of_mem _ (List.mem_append_left _ y))).2
            omega
          · exact b.ds x hx (by push_cast at hx2; omega)
      · rcases List.mem_cons.mp q with q | q
        · subst q
          have na : p ∉ A := fun z => ndA p z p List.mem_cons_self rfl
          refine ⟨A, ((n : Int) + 1) :: D, B, by rw [b.eq, insA_split na]; rfl, fun x hx => ?_, b.lt, fun x hx hx2 => ?_, fun c c0 c1 c2 c3 => ?_, b.sb⟩
          · rcases List.mem_cons.mp hx with z | z
            · omega
            · exact b.gt x z
          · by_cases e : x = (n : Int) + 1
            · subst e
              rw [dsp]
              simp
            · rw [← b.ds x hx (by push_cast at hx2; omega)]
              simp [e]
          · by_cases e : c = (n : Int) + 1
            · rw [e]
              rfl
            · exact absurd hp.symm (c3 _ (by push_cast at c1; omega) (by push_cast; omega))
        · have npv : p ≠ v := fun z => ndv.1 (by rw [← z]; exact q)
          have na : p ∉ A := fun z => ndA p z p (List.mem_cons_of_mem _ q) rfl
          rcases List.mem_append.mp q with q | q
          · obtain ⟨D1, D2, e, nd1⟩ := split_of q
            subst e
            refine ⟨A, D1 ++ p :: ((n : Int) + 1) :: D2, B, ?_, fun x hx => ?_, b.lt, fun x hx hx2 => ?_, chs npv head_app, b.sb⟩
            · rw [b.eq]
              have e2 : A ++ v :: (D1 ++ p :: D2 ++ B) = (A ++ v :: D1) ++ p :: (D2 ++ B) := by simp
              rw [e2, insA_split]
              · simp
              · intro z
                rcases List.mem_append.mp z with y | y
                · exact na y
                · rcases List.mem_cons.mp y with y | y
                  · exact npv y
                  · exact nd1 y
            · have : x ∈ D1 ++ p :: D2 ∨ x = (n : Int) + 1 := by
                simp only [List.mem_append, List.mem_cons] at hx ⊢
                rcases hx with z | z | z | z
                · exact .inl (.inl z)
                · exact .inl (.inr (.inl z))
                · exact .inr z
                · exact .inl (.inr (.inr z))
              rcases this with z | z
              · exact b.gt x z
              · omega
            · by_cases e : x = (n : Int) + 1
              · subst e
                rw [dsp]
                simp
              · rw [← b.ds x hx (by push_cast at hx2; omega)]
                simp [e]
          · obtain ⟨B1, B2, e, nb1⟩ := split_of q
            subst e
            have hpD : p ∉ D := fun z => ndDB.2.2 p z p q rfl
            refine ⟨A, D, B1 ++ p :: ((n : Int) + 1) :: B2, ?_, b.gt, fun x hx => b.lt x (by rw [← hx, head_app]), fun x hx hx2 => ?_, chs npv rfl, fun c c0 c1 c2 c3 => by rw [head_app]; exact b.sb c c0 c1 c2 c3⟩
            · rw [b.eq]
              have e2 : A ++ v :: (D ++ (B1 ++ p :: B2)) = (A ++ v :: (D ++ B1)) ++ p :: B2 := by simp
              rw [e2, insA_split]
              · simp
              · intro z
                rcases List.mem_append.mp z with y | y
                · exact na y
                · rcases List.mem_cons.mp y with y | y
                  · exact npv y
                  · rcases List.mem_append.mp y with y | y
                    · exact hpD y
                    · exact nb1 y
            · by_cases e : x = (n : Int) + 1
              · subst e
                rw [dsp]
                refine ⟨fun z => ?_, fun z => ?_⟩
                · exfalso
                  have := ((W.mem _).mp (show (n : Int) + 1 ∈ lineN qs n from by
                    rw [b.eq]
                    refine List.mem_append_right _ ?_
                    rcases List.mem_cons.mp z with y | y
                    · exact List.mem_cons.mpr (.inl y)
                    · exact List.mem_cons_of_mem _ (List.mem_append_left _ y))).2
                  omega
                · rcases List.mem_cons.mp z with y | y
                  · exact absurd y npv
                  · exact absurd y hpD
              · exact b.ds x hx (by push_cast at hx2; omega)
/-! ### what follows a version -/
end Ln

namespace DL
open PySem PySem.Spec L2
variable [LamT]
theorem ix_nat {α : Type} {xs : List α} {i : Int} (h : 0 ≤ i) : atI xs i = xs[i.toNat]? := by
  unfold atI ixN
  rw [if_pos h]
  by_cases h1 : i < (xs.length : Int)
  · rw [if_pos h1]
    rfl
  · rw [if_neg h1]
    exact (List.getElem?_eq_none_iff.mpr (by omega)).symm
theorem sIx_some {n d : Nat} {i : Int} (h : 0 ≤ i) : HT.sIx n d (some i) = min i.toNat n := by
  show (if i < 0 then (i + (n : Int)).toNat else min i.toNat n) = min i.toNat n
  rw [if_neg (by omega)]
theorem cutD_from {ds : List D} {i : Int} (h : 0 ≤ i) : cutD ds (some i) none = ds.drop i.toNat := by
  unfold cutD
  rw [sIx_some h]
  show (ds.drop (min i.toNat ds.length)).take (ds.length - min i.toNat ds.length) = _
  by_cases q : i.toNat ≤ ds.length
  · rw [Nat.min_eq_left q]
    exact List.take_of_length_le (by rw [List.length_drop]; omega)
  · rw [Nat.min_eq_right (by omega), List.drop_of_length_le (Nat.le_refl _), List.drop_of_length_le (by omega)]
    simp
theorem cutD_to {ds : List D} {i : Int} (h : 0 ≤ i) : cutD ds none (some i) = ds.take i.toNat := by
  unfold cutD
  rw [sIx_some h]
  show (ds.drop 0).take (min i.toNat ds.length - 0) = _
  rw [List.drop_zero, Nat.sub_zero]
  by_cases q : i.toNat ≤ ds.length
  · rw [Nat.min_eq_left q]
  · rw [Nat.min_eq_right (by omega), List.take_of_length_le (Nat.le_refl _), List.take_of_length_le (by omega)]
theorem cutD_mid {ds : List D} {i j : Int} (h : 0 ≤ i) (h2 : 0 ≤ j) : cutD ds (some i) (some j) = (ds.drop i.toNat).take (j.toNat - i.toNat) := by
  unfold cutD
  rw [sIx_some h, sIx_some h2]
  by_cases q : i.toNat ≤ ds.length
  · rw [Nat.min_eq_left q]
    by_cases q2 : j.toNat ≤ ds.length
    · rw [Nat.min_eq_left q2]
    · rw [Nat.min_eq_right (by omega), List.take_of_length_le (by rw [List.length_drop]; omega), List.take_of_length_le (by rw [List.length_drop]; omega)]
  · rw [Nat.min_eq_right (by omega : ds.length ≤ i.toNat), List.drop_of_length_le (Nat.le_refl _), List.drop_of_length_le (by omega)]
    simp
theorem imms_drop {ds : List D} {i : Nat} (h : Imms ds) : Imms (ds.drop i) := imms_iff.mpr fun d hd => imms_iff.mp h d (List.drop_subset _ _ hd)
theorem imms_take {ds : List D} {i : Nat} (h : Imms ds) : Imms (ds.take i) := imms_iff.mpr fun d hd => imms_iff.mp h d (List.take_subset _ _ hd)
theorem getD_ints {xs : List Int} {i : Nat} (h : i < xs.length) : (xs.map D.int).getD i .non = .int (xs.getD i 0) := by
  rw [List.getD_eq_getElem?_getD, List.getD_eq_getElem?_getD, List.getElem?_map, List.getElem?_eq_getElem h]
  rfl
/-- a mark for the driver: tuples are known whole -/
inductive PtMode : Prop where
  | on
section
variable {X : Cx} {scope : Scope} {i j kk : Nat} {x y : Str} {px py pt : Pos}
theorem blk_name (hN : X.N.Nodup) (hi : X.N[i]? = some x) (hx : scope.names.lookup x = some .local) (s : Shared) (H : Hp) (C : Addr) (cl : List (Str × Addr)) (fp : List Addr) :
    PG (X.blk s H scope (compEnvC scope cl C X.env) fp) (.Name x px) (gName i) := pg_name (X := X.blk s H scope (compEnvC scope cl C X.env) fp) hN hi (.inl (lookup_relabel_local hx)) (.inr (lookup_relabel_local hx))
theorem blk_pair (hc : X.calm = true) (hN : X.N.Nodup) (hi : X.N[i]? = some x) (hj : X.N[j]? = some y) (hx : scope.names.lookup x = some .local) (hy : scope.names.lookup y = some .local) (s : Shared) (H : Hp) (C : Addr) (cl : List (Str × Addr)) (fp : List Addr) :
    PG (X.blk s H scope (compEnvC scope cl C X.env) fp) (.Tuple [.Name x px, .Name y py] kk pt) (gTup X.K 2 (gCons (gName i) (gCons (gName j) gNil))) :=
  pg_tup (X := X.blk s H scope (compEnvC scope cl C X.env) fp) hc (pgs_cons (blk_name hN hi hx s H C cl fp) (pgs_cons (blk_name hN hj hy s H C cl fp) pgs_nil))
end
theorem cdivw {i j : Int} (h : 0 < j) (h2 : j < 4611686018427387904) : CDivW i j := by
  refine ⟨h, ?_⟩
  have e : j.natAbs < 2 ^ 62 := by omega
  have := (Nat.log2_lt (by omega : j.natAbs ≠ 0)).mpr e
  omega
theorem cpow {i j : Int} (h : 0 ≤ j) (h1 : j ≤ 1000) (h2 : 0 ≤ i) (h3 : i < 18446744073709551616) : CPow i j := ⟨h, by omega, by omega⟩
theorem cmul1 {i j : Int} (h : 0 ≤ i) (h2 : i < 18446744073709551616) : CMul i j := .inl ⟨by omega, by omega⟩
theorem cmul2 {i j : Int} (h : 0 ≤ j) (h2 : j < 18446744073709551616) : CMul i j := .inr ⟨by omega, by omega⟩
end DL

namespace DL
open PySem PySem.Spec L2
variable [LamT]
section
variable {X : Cx} {n : List Nat} {E : EnvT} {kb : Bool → EnvT → Prop} {pos pos' apos p p2 : Pos} {i j jj : Nat} {x z : Str} {e : Expr} {es : List Expr} {keys : List Key} {ds : List D} {d : D}
theorem wvs_nil {k : List D → EnvT → Prop} (h : k [] E) : WVs X [] E k := h
theorem wvs_cons {k : List D → EnvT → Prop} (h : WE X e E fun d E1 => WVs X es E1 fun ds E2 => k (d :: ds) E2) : WVs X (e :: es) E k := h
/-- x['z'] != [], a list of ints, as a test -/
theorem wt_dne {gs : List Int} (hu : X.A.units + 64 < cLine) (hN : X.N[i]? = some x) (hE : E[i]? = some (some (.dic keys ds))) (hk : keys.Nodup) (hj : keys[j]? = some (.inr z)) (hd : ds[j]? = some (.lst (gs.map D.int))) (h : kb (!decide (gs = [])) E)
    (hv : Vis X.env.scope x := by first | exact Or.inl rfl | exact Or.inr (Or.inl rfl) | exact Or.inr (Or.inr rfl)) (hdb : (x == ("__debug__" : Str)) = false := by decide) (hcd : (x == ("__classdict__" : Str)) = false := by decide) :
    WT X (.Compare (.Subscript (.Name x p) (.Constant (.str z) jj p2) pos') [.NotEq] [.List [] apos] pos) E kb := by
  intro Z H σ F Q he hk'
  obtain ⟨a, vs, Fd, R, hv1, hH, hl, rs, hR, hp⟩ := he.dic hE
  obtain ⟨v, G', hvj, rv, _⟩ := rs.get hd
  refine wpT_by (pt_cmpR (op_neD hu) (pe_dget (by omega) (pe_var hN hv hdb hcd) pe_str (fun _ _ => rfl)) (pe_lst pa_nil) (nomark _)) ⟨_, hv1, a, v, rfl, ?_, Nat.zero_le _, fun q hq => ?_⟩
  · have g := DGet.k (k := Sum.inr z) hH
    rw [valV_zip hk hj hvj] at g
    exact g
  · have gr := Grow.new0 (H := H) (p := q) (o := .lst []) hq
    have s1 : ShpN 1 (.lst (gs.map D.int)) := shpN_lst fun d hd => by
      obtain ⟨y, _, rfl⟩ := List.mem_map.mp hd
      exact shpN_int
    have s2 : ShpN 1 (.lst []) := shpN_lst fun d hd => nomatch hd
    have rq : Rep X.K Z (upd H q (.lst [])) (.lst []) (.ref q) [q] := .lst upd_same .nil
    refine ⟨_, _, (rv.grow gr).dp s1.1, rq.dp s2.1, s1.shp (by decide), s2.shp (by decide), ?_⟩
    have e : (!PyData.eqv (toPy (.lst (gs.map D.int))) (toPy (.lst []))) = !decide (gs = []) := by
      have q2 : PyData.eqv (toPy (.lst (gs.map D.int))) (toPy (.lst ([].map D.int))) = decide (gs = []) := by
        have q3 := deqs_ints (xs := gs) (ys := [])
        have q4 : deq (.lst (gs.map D.int)) (.lst ([].map D.int)) = deqs (gs.map D.int) ([].map D.int) := deq_ll rfl rfl
        rw [q3] at q4
        exact q4
      exact congrArg (!·) q2
    rw [e]
    exact ⟨_, rfl, hk' _ E Z _ F h ((Fin.refl he).grow gr).nil⟩
end
/-! ### the state of the draws -/
def kS : List Key := [.inr "great", .inr "cells", .inr "left", .inr "turn"]
theorem kN : kS.Nodup := by decide
theorem key0 : kS[0]? = some (.inr "great") := rfl
theorem key1 : kS[1]? = some (.inr "cells") := rfl
theorem key2 : kS[2]? = some (.inr "left") := rfl
theorem key3 : kS[3]? = some (.inr "turn") := rfl
def stD (g c : List Int) (l t : Int) : D := .dic kS [.lst (g.map D.int), .fz (c.map D.int), .int l, .int t]
end DL

namespace DL
open PySem PySem.Spec L2
variable [LamT]
section
variable {X : Cx} {n : List Nat} {e a b c : Expr} {E : EnvT} {ks : KS} {pos p pos' : Pos} {i j l : Nat} {x y z : Str}
theorem WT.mono {k k' : Bool → EnvT → Prop} (h : WT X e E k) (m : ∀ t E', k t E' → k' t E') : WT X e E k' := fun Z H σ F Q he hk => h Z H σ F Q he fun t E' Z' H' F' q => hk t E' Z' H' F' (m t E' q)
end
end DL

namespace DL
open PySem PySem.Spec L2
variable [LamT]
section
variable {X : Cx}
theorem any_ints {ns : List Int} {i : Int} : ((ns.map D.int).any fun x => deq x (.int i)) = decide (i ∈ ns) := by
  induction ns with
  | nil => simp
  | cons a ns ih =>
    rw [List.map_cons, List.any_cons, ih, deq_int]
    by_cases h : a = i
    · simp [h]
    · have h' : ¬ i = a := fun e => h e.symm
      simp [h, h']
theorem cmp_inS {d2 : D} {ds : List D} {ns : List Int} {i : Int} (h2 : d2.seq = some ds) (h3 : ds = ns.map D.int) : CmpD X .In (.int i) d2 (decide (i ∈ ns)) := .mk op_in_seq fun Z H v1 v2 G1 G2 r1 r2 Q q => by
  obtain ⟨p, vs, G', rfl, hs, rs⟩ := r2.seq h2
  subst h3
  obtain ⟨q1, q2⟩ := Reps.flat r1 rfl rs (by rw [List.all_map]; exact List.all_eq_true.mpr fun _ _ => rfl)
  refine ⟨p, vs, rfl, hs, (r1.flat rfl).1, q1, ?_⟩
  rw [q2, any_ints]
  exact q _ H [] (.bl _) Grow.refl
theorem cmp_notinS {d2 : D} {ds : List D} {ns : List Int} {i : Int} (h2 : d2.seq = some ds) (h3 : ds = ns.map D.int) : CmpD X .NotIn (.int i) d2 (!decide (i ∈ ns)) := .mk op_notIn_seq fun Z H v1 v2 G1 G2 r1 r2 Q q => by
  obtain ⟨p, vs, G', rfl, hs, rs⟩ := r2.seq h2
  subst h3
  obtain ⟨q1, q2⟩ := Reps.flat r1 rfl rs (by rw [List.all_map]; exact List.all_eq_true.mpr fun _ _ => rfl)
  refine ⟨p, vs, rfl, hs, (r1.flat rfl).1, q1, ?_⟩
  rw [q2, any_ints]
  exact q _ H [] (.bl _) Grow.refl
theorem cmp_inL {ns : List Int} {i : Int} : CmpD X .In (.int i) (.lst (ns.map D.int)) (decide (i ∈ ns)) := cmp_inS rfl rfl
theorem cmp_niL {ns : List Int} {i : Int} : CmpD X .NotIn (.int i) (.lst (ns.map D.int)) (!decide (i ∈ ns)) := cmp_notinS rfl rfl
theorem cmp_inF {ns : List Int} {i : Int} : CmpD X .In (.int i) (.fz (ns.map D.int)) (decide (i ∈ ns)) := cmp_inS rfl rfl
theorem cmp_niF {ns : List Int} {i : Int} : CmpD X .NotIn (.int i) (.fz (ns.map D.int)) (!decide (i ∈ ns)) := cmp_notinS rfl rfl
theorem cmp_inT {ns : List Int} {i : Int} : CmpD X .In (.int i) (.tup (ns.map D.int)) (decide (i ∈ ns)) := cmp_inS rfl rfl
theorem cmp_niT {ns : List Int} {i : Int} : CmpD X .NotIn (.int i) (.tup (ns.map D.int)) (!decide (i ∈ ns)) := cmp_notinS rfl rfl
theorem cmp_inP {ns : List Int} {i : Int} : CmpD X .In (.int i) (.pt (ns.map D.int)) (decide (i ∈ ns)) := cmp_inS rfl rfl
theorem cmp_niP {ns : List Int} {i : Int} : CmpD X .NotIn (.int i) (.pt (ns.map D.int)) (!decide (i ∈ ns)) := cmp_notinS rfl rfl
end
end DL

namespace DL
open PySem PySem.Spec L2
variable [LamT]
section
variable {X : Cx}
theorem shp_lstI {l : List Int} : Shp (.lst (l.map D.int)) := ShpN.shp (n := 1) (shpN_lst fun d hd => by
  obtain ⟨x, _, e⟩ := List.mem_map.mp hd
  rw [← e]; exact shpN_int) (by decide)
theorem shp_tupI {l : List Int} : Shp (.tup (l.map D.int)) := ShpN.shp (n := 1) (shpN_tup fun d hd => by
  obtain ⟨x, _, e⟩ := List.mem_map.mp hd
  rw [← e]; exact shpN_int) (by decide)
theorem shp_ptI {l : List Int} : Shp (.pt (l.map D.int)) := ShpN.shp (n := 1) (shpN_pt fun d hd => by
  obtain ⟨x, _, e⟩ := List.mem_map.mp hd
  rw [← e]; exact shpN_int) (by decide)
theorem cmp_neLL {xs ys : List Int} (hu : X.A.units + 64 < cLine) : CmpD X .NotEq (.lst (xs.map D.int)) (.lst (ys.map D.int)) (!decide (xs = ys)) := by
  have q := cmp_ne (X := X) (d1 := .lst (xs.map D.int)) (d2 := .lst (ys.map D.int)) hu shp_lstI shp_lstI
  rw [deq_ll rfl rfl, deqs_ints] at q
  exact q
theorem cmp_neTT {xs ys : List Int} (hu : X.A.units + 64 < cLine) : CmpD X .NotEq (.tup (xs.map D.int)) (.tup (ys.map D.int)) (!decide (xs = ys)) := by
  have q := cmp_ne (X := X) (d1 := .tup (xs.map D.int)) (d2 := .tup (ys.map D.int)) hu shp_tupI shp_tupI
  rw [deq_tt rfl rfl, deqs_ints] at q
  exact q
theorem cmp_nePT {xs ys : List Int} (hu : X.A.units + 64 < cLine) : CmpD X .NotEq (.pt (xs.map D.int)) (.tup (ys.map D.int)) (!decide (xs = ys)) := by
  have q := cmp_ne (X := X) (d1 := .pt (xs.map D.int)) (d2 := .tup (ys.map D.int)) hu shp_ptI shp_tupI
  rw [deq_tt rfl rfl, deqs_ints] at q
  exact q
theorem cmp_eqLL {xs ys : List Int} (hu : X.A.units + 64 < cLine) : CmpD X .Eq (.lst (xs.map D.int)) (.lst (ys.map D.int)) (decide (xs = ys)) := by
  have q := cmp_eq (X := X) (d1 := .lst (xs.map D.int)) (d2 := .lst (ys.map D.int)) hu shp_lstI shp_lstI
  rw [deq_ll rfl rfl, deqs_ints] at q
  exact q
/-- [] == [] and the like -/
theorem cmp_eqLN {xs : List Int} (hu : X.A.units + 64 < cLine) : CmpD X .Eq (.lst (xs.map D.int)) (.lst []) (decide (xs = [])) := cmp_eqLL (ys := []) hu
theorem cmp_neLN {xs : List Int} (hu : X.A.units + 64 < cLine) : CmpD X .NotEq (.lst (xs.map D.int)) (.lst []) (!decide (xs = [])) := cmp_neLL (ys := []) hu
theorem cmpi_lt : CmpI X .Lt fun i j => decide (i < j) := op_lt
theorem cmpi_le : CmpI X .LtE fun i j => decide (i ≤ j) := op_le
theorem cmpi_gt : CmpI X .Gt fun i j => decide (j < i) := op_gt
theorem cmpi_ge : CmpI X .GtE fun i j => decide (j ≤ i) := op_ge
/-- slices, by trees -/
def rSlD (X : Cx) : V → Option Int → Option Int → Hp → VK → Prop := fun v l u H Q => ∃ r, SlR X r ∧ r v l u H Q
def SlD (X : Cx) (d1 : D) (l u : Option Int) (d : D) : Prop := ∀ Z H v G, Rep X.K Z H d1 v G → Gives X.K Z H d (rSlD X v l u H)
theorem slr_D : SlR X (rSlD X) := fun pins s σ H x v vl vu lo hi sl Q I rx hs pl pu ⟨r, hr, q⟩ => hr pins s σ H x v vl vu lo hi sl Q I rx hs pl pu q
theorem sl_T {d1 : D} {ds : List D} {l u : Option Int} (h : d1.tseq = some ds) (im : Imms ds) : SlD X d1 l u (.tup (cutD ds l u)) := fun Z H v G r Q q => by
  obtain ⟨a, vs, rfl, hs, rs⟩ := r.tseq h
  have rs0 := rs.nils im
  obtain ⟨G', rc⟩ := rs0.cut l u
  have rc0 := rc.nils (imms_cut im)
  refine ⟨_, sl_tupA, a, vs, rfl, hs, fun hw => ?_, fun hw p hp => ?_⟩
  · refine q _ H [] (.tup hs ?_) Grow.refl
    have e : cutV vs l u = vs := by unfold cutV; rw [hw.1, hw.2]; simp
    rw [e] at rc0
    exact rc0
  · exact q _ _ [] (.tup (SqT.of upd_same) (rc0.grow (Grow.new0 hp))) (Grow.new0 hp)
theorem sl_L {d1 : D} {ds : List D} {l u : Option Int} (h : d1.lseq = some ds) (im : Imms ds) : SlD X d1 l u (.lst (cutD ds l u)) := fun Z H v G r Q q => by
  obtain ⟨a, vs, G1, rfl, hs, rs⟩ := r.lseq h
  have rs0 := rs.nils im
  obtain ⟨G', rc⟩ := rs0.cut l u
  have rc0 := rc.nils (imms_cut im)
  exact ⟨_, sl_list, a, vs, rfl, hs, fun p hp => q _ _ [p] (.lst upd_same (rc0.grow (Grow.new hp))) (Grow.new hp)⟩
theorem sl_t {ds : List D} {l u : Option Int} (im : Imms ds) : SlD X (.tup ds) l u (.tup (cutD ds l u)) := sl_T rfl im
theorem sl_p {ds : List D} {l u : Option Int} (im : Imms ds) : SlD X (.pt ds) l u (.tup (cutD ds l u)) := sl_T rfl im
theorem sl_l {ds : List D} {l u : Option Int} (im : Imms ds) : SlD X (.lst ds) l u (.lst (cutD ds l u)) := sl_L rfl im
theorem sl_f {ds : List D} {l u : Option Int} (im : Imms ds) : SlD X (.fz ds) l u (.lst (cutD ds l u)) := sl_L rfl im
theorem wo_slD {e : Expr} {E : EnvT} {k : Opd → EnvT → Prop} {lo hi : Option Expr} {pos p2 : Pos} (h : WO X e E fun o E1 => WPt X lo E1 fun l E2 => WPt X hi E2 fun u E3 => ∃ d1 d, o.get E3 = some d1 ∧ SlD X d1 l u d ∧ k (.val d) E3) :
    WO X (.Subscript e (.Slice lo hi none p2) pos) E k := wo_sl slr_D h
end
end DL

namespace DL
open PySem PySem.Spec L2
variable [LamT]
theorem at2_0 {a b : D} : atI [a, b] 0 = some a := (ix_nat (by decide)).trans rfl
theorem at2_1 {a b : D} : atI [a, b] 1 = some b := (ix_nat (by decide)).trans rfl
theorem at3_0 {a b c : D} : atI [a, b, c] 0 = some a := (ix_nat (by decide)).trans rfl
theorem at3_1 {a b c : D} : atI [a, b, c] 1 = some b := (ix_nat (by decide)).trans rfl
theorem at3_2 {a b c : D} : atI [a, b, c] 2 = some c := (ix_nat (by decide)).trans rfl
def pairD (p : Int × Int) : D := .tup [.int p.1, .int p.2]
theorem imms_pairs : ∀ {ps : List (Int × Int)}, Imms (ps.map pairD)
  | [] => trivial
  | _ :: _ => ⟨⟨trivial, trivial, trivial⟩, imms_pairs⟩
theorem shp_pairs {ps : List (Int × Int)} : Shp (.lst (ps.map pairD)) := ShpN.shp (n := 2) (shpN_lst fun d hd => by
  obtain ⟨x, _, e⟩ := List.mem_map.mp hd
  rw [← e]
  exact shpN_tup fun d hd => by
    rcases List.mem_cons.mp hd with q | q
    · rw [q]; exact shpN_int
    · rw [List.mem_singleton.mp q]; exact shpN_int) (by decide)
section
variable {X : Cx}
theorem cmp_neE {ds : List D} (hu : X.A.units + 64 < cLine) (h : Shp (.lst ds)) : CmpD X .NotEq (.lst ds) (.lst []) (!ds.isEmpty) := by
  have q := cmp_ne (X := X) (d1 := .lst ds) (d2 := .lst []) hu h (shp_lstI (l := []))
  rw [deq_ll rfl rfl] at q
  have e : deqs ds [] = ds.isEmpty := by
    cases ds with
    | nil => exact deqs_nil
    | cons d ds => exact deqs_cn
  rw [e] at q
  exact q
theorem cmp_neP {ps : List (Int × Int)} (hu : X.A.units + 64 < cLine) : CmpD X .NotEq (.lst (ps.map pairD)) (.lst []) (!(ps.map pairD).isEmpty) := cmp_neE hu shp_pairs
theorem cmp_eqN {i : Int} (hu : X.A.units + 64 < cLine) : CmpD X .Eq .non (.int i) false := by
  have q := cmp_eq (X := X) (d1 := .non) (d2 := .int i) hu shp_non shp_int
  have e : deq .non (.int i) = false := by simp [deq, toPy, PyData.eqv]
  rw [e] at q
  exact q
end
end DL

namespace DL
open PySem PySem.Spec L2
variable [LamT]
section
variable {X : Cx}
theorem cmp_notB {a b : Bool} : CmpD X .IsNot (.bl a) (.bl b) (!decide (a = b)) := .mk op_notBl fun Z H v1 v2 G1 G2 r1 r2 Q q => by
  cases r1
  cases r2
  exact ⟨_, _, rfl, rfl, q _ H [] (.bl _) Grow.refl⟩
end
end DL

namespace DL
open PySem PySem.Spec L2
variable [LamT]
theorem OpdRs.ofReps {K : PySem.W.Frag} {Z : Addr → Prop} {H : Hp} {σ : Sl} : ∀ {ds : List D} {vs : List V} {G : List Addr}, Reps K Z H ds vs G → OpdRs K Z H σ (ds.map Opd.val) vs G
  | _, _, _, .nil => .nil
  | _, _, _, .cons r rs => .cons r (OpdRs.ofReps rs)
theorem OpdRs.app {K : PySem.W.Frag} {Z : Addr → Prop} {H : Hp} {σ : Sl} : ∀ {os os' : List Opd} {vs ws : List V} {G G' : List Addr}, OpdRs K Z H σ os vs G → OpdRs K Z H σ os' ws G' → OpdRs K Z H σ (os ++ os') (vs ++ ws) (G ++ G')
  | _, _, _, _, _, _, .nil, q => q
  | _, _, _, _, _, _, .cons r rs, q => by
    rw [List.cons_append, List.cons_append, List.append_assoc]
    exact .cons r (OpdRs.app rs q)
section
variable {X : Cx} {e : Expr} {es : List Expr} {E : EnvT} {p : Pos} {k : List Opd → EnvT → Prop}
/-- *e within arguments or a display, items that own nothing -/
theorem wa_star (h : WO X e E fun o E1 => ∃ ds, (o.get E1).bind D.seq = some ds ∧ Imms ds ∧ WA X es E1 fun os E2 => k (ds.map Opd.val ++ os) E2) (hs : starEach (.Starred e p :: es) X.env = (true, eval e X.env) :: starEach es X.env := by rfl) : WA X (.Starred e p :: es) E k := by
  intro Z H σ F Q he hk
  refine wpA_by (StX.pa_star pe_w pa_w hs) (h Z H σ F _ he fun o E1 Z1 H1 F1 G v ⟨ds, g, im, q⟩ f r => ?_)
  obtain ⟨d1, gd, gs⟩ := seq_of g
  obtain ⟨G', r', _⟩ := r.use f.env gd
  obtain ⟨a, vs, G3, rfl, hq, rs⟩ := r'.seq gs
  have rs0 := rs.nils im
  refine ⟨a, vs, rfl, hq.symm, q Z1 H1 σ F1 _ f.env fun os E2 Z2 H2 F2 G2 ys kk f2 r2 => ?_⟩
  exact hk _ E2 Z2 H2 F2 G2 (vs ++ ys) kk (f.then f2) (OpdRs.app (OpdRs.ofReps (rs0.step f2.st fun a h => nomatch h)) r2)
end
end DL

namespace DL
open PySem PySem.Spec L2
variable [LamT]
theorem Reps.erase {K : PySem.W.Frag} {Z : Addr → Prop} {H : Hp} : ∀ {ds : List D} {vs : List V} {j : Nat}, Reps K Z H ds vs [] → Reps K Z H (ds.eraseIdx j) (vs.eraseIdx j) [] := by
  intro ds vs j r
  have im : ∀ {ds : List D} {vs : List V} {G : List Addr}, Reps K Z H ds vs G → G = [] → ∀ j, Reps K Z H (ds.eraseIdx j) (vs.eraseIdx j) [] := by
    intro ds
    induction ds with
    | nil => intro vs G r e j; cases r; exact .nil
    | cons d ds ih =>
      intro vs G r e j
      cases r with
      | cons r1 rs =>
        rename_i v F vs G
        have e1 : F = [] := (List.append_eq_nil_iff.mp e).1
        have e2 : G = [] := (List.append_eq_nil_iff.mp e).2
        subst e1
        subst e2
        cases j with
        | zero => exact rs
        | succ j => exact .cons r1 (ih rs rfl j)
  exact im r rfl j
section
variable {X : Cx} {e : Expr} {E : EnvT} {k : Opd → EnvT → Prop} {pos apos p : Pos} {i : Nat} {x : Str}
/-- x.pop(e), things that own nothing -/
theorem wo_popAt (hE : ∃ ds0, E[i]? = some (some (.lst ds0)))
    (h : WO X e E fun o1 E1 => ∃ (j : Nat) (d : D) (ds : List D), o1.get E1 = some (.int (j : Int)) ∧ E1[i]? = some (some (.lst ds)) ∧ Imms ds ∧ ds[j]? = some d ∧ ds.length ≤ 100000 ∧ k (.val d) (E1.set i (some (.lst (ds.eraseIdx j)))))
    (hb : PE X (.Call (.Attribute (.Name x p) "pop" apos) [e] [] pos) (tBM X.K "list" rPopAt (tVar i) (wpA X [e]))) (hs : starEach [e] X.env = (false, eval e X.env) :: starEach [] X.env := by rfl) :
    WO X (.Call (.Attribute (.Name x p) "pop" apos) [e] [] pos) E k := by
  intro Z H σ F Q he hk
  obtain ⟨ds0, hE⟩ := hE
  obtain ⟨a0, vs0, Fd0, R0, hv, hl0, _⟩ := he.lst hE
  refine wpE_by hb ⟨_, hv, .inl ⟨rfl, vs0, SqL.of hl0⟩, ?_⟩
  have hA : WA X [e] E fun os E1 => ∃ o1, os = [o1] ∧ ∃ (j : Nat) (d : D) (ds : List D), o1.get E1 = some (.int (j : Int)) ∧ E1[i]? = some (some (.lst ds)) ∧ Imms ds ∧ ds[j]? = some d ∧ ds.length ≤ 100000 ∧ k (.val d) (E1.set i (some (.lst (ds.eraseIdx j)))) :=
    wa_cons (WO.mono h fun o1 E1 q => wa_nil ⟨o1, rfl, q⟩) hs
  refine hA Z H σ F _ he fun os E1 Z1 H1 F1 G vs ⟨o1, eo, j, d, ds, g1, hE1, im, hd, hlen, kk⟩ f1 rs => ?_
  subst eo
  cases rs with
  | cons r1 rn =>
    cases rn
    rename_i w1 G1
    obtain ⟨Gj, rj, _⟩ := r1.use f1.env g1
    cases rj
    obtain ⟨a1, vs1, Fd, R, hv1, hl1, rd, hR, hp1⟩ := f1.env.lst hE1
    rw [hv] at hv1
    cases hv1
    have hl := rd.len
    have rd0 := rd.nils im
    obtain ⟨v, G', hv1, rv, _⟩ := rd0.get hd
    have hj : j < ds.length := (List.getElem?_eq_some_iff.mp hd).1
    obtain ⟨F', e3, s3⟩ := f1.env.chgL hE1 hv hl1 rd hR hp1 (Gt := []) (Fd' := []) f1.env.nd (fun y hy => nomatch hy) (fun y hy => nomatch hy) (by simp) (rd0.erase (j := j))
    have s4 : Stp Z1 H1 F1 Z1 (upd H1 a0 (.lst (vs1.eraseIdx j))) F' := s3
    refine ⟨a0, vs1, (j : Int), j, v, rfl, rfl, hl1, by omega, by omega, ?_, hv1, ?_⟩
    · unfold seqIndex?
      simp
      omega
    · exact hk _ _ Z1 _ F' [] v kk ⟨e3, e3.nd, (fun y hy => nomatch hy), f1.nil.st.trans s4⟩ ((rv.nils (imms_get im hd)).step s4 fun y hy => nomatch hy)
end
end DL

namespace DL
open PySem PySem.Spec L2
variable [LamT]
/-! ### the draws, told by one state -/
theorem ncast (n : Nat) : (NatCast.natCast n : Int) = (n : Int) := rfl
structure Sta where
  g : List Int
  c : List Int
  l : Int
  t : Int
def sD (s : Sta) : D := stD s.g s.c s.l s.t
structure SOk (n : Int) (s : Sta) : Prop where
  g0 : ∀ x ∈ s.g, 0 ≤ x
  c0 : ∀ x ∈ s.c, 0 ≤ x
  l0 : 0 ≤ s.l
  t0 : 0 ≤ s.t
  t1 : s.t ≤ n
theorem SOk.mono {n m : Int} {s : Sta} (h : SOk n s) (l : n ≤ m) : SOk m s := ⟨h.g0, h.c0, h.l0, h.t0, Int.le_trans h.t1 l⟩
theorem SOk.n0 {n : Int} {s : Sta} (h : SOk n s) : 0 ≤ n := Int.le_trans h.t0 h.t1
def ct_law_begun : Ct := ⟨List Int, fun ns ds => ds = [.fz (ns.map D.int)] ∧ ns.length ≤ 1000, fun ns d _ => ∃ s, d = sD s ∧ SOk 0 s⟩
def ct_law_blended : Ct := ⟨Sta × Int, fun a ds => ds = [sD a.1] ∧ SOk a.2 a.1 ∧ a.2 ≤ 1000000000000, fun a d ds => ∃ r, d = .int r ∧ 0 ≤ r ∧ ds = [sD { a.1 with t := a.1.t + 1 }]⟩
def ct_law_draw : Ct := ⟨Sta × Int × Int, fun a ds => ds = [sD a.1, .int a.2.1] ∧ SOk a.2.2 a.1 ∧ (0 < a.2.1 ∧ a.2.1 < 4611686018427387904) ∧ a.2.2 ≤ 1000000000000, fun a d ds => ∃ r s, d = .int r ∧ (0 ≤ r ∧ r < a.2.1) ∧ ds = [sD s] ∧ SOk (a.2.2 + 1) s⟩
def ct_law_pick : Ct := ⟨Sta × Int × D × List D, fun a ds => ds = [sD a.1, a.2.2.1] ∧ SOk a.2.1 a.1 ∧ a.2.2.1.seq = some a.2.2.2 ∧ Imms a.2.2.2 ∧ (0 < a.2.2.2.length ∧ a.2.2.2.length ≤ 100000) ∧ a.2.1 ≤ 1000000000000, fun a d ds => ∃ s, d ∈ a.2.2.2 ∧ ds = [sD s] ∧ SOk (a.2.1 + 1) s⟩
end DL

namespace DL
open PySem PySem.Spec L2
variable [LamT]
theorem filterMap_take {α β : Type} {xs : List α} {G : α → Option β} {j : Nat} (h : j < xs.length) : (xs.take (j + 1)).filterMap G = (xs.take j).filterMap G ++ (G xs[j]).toList := by
  rw [List.take_succ, List.filterMap_append, List.getElem?_eq_getElem h]
  cases e : G xs[j] <;> simp [e]
section
variable {X : Cx} {tg iter elt : Expr} {ifs : List Expr} {E : EnvT} {k : Opd → EnvT → Prop} {pos : Pos} {scope : Scope} {g : TG} {own : List (Str × Nat)}
/-- what a comprehension without a state asks -/
def LcX (X : Cx) (elt : Expr) (ifs : List Expr) (scope : Scope) (g : TG) (vs : List Nat) (m : Nat) (src : Nat → D) (w : List (Nat × D)) (E0 : EnvT) (kk : List D → Prop) : Prop :=
  ∃ (α : Type) (xs : List α) (enc : α → D) (G : α → Option D), xs.length = m ∧ m ≤ 100000 ∧ (∀ (j : Nat) (h : j < xs.length), src j = enc xs[j]) ∧ (∀ p ∈ w, E0[p.1]? = some (some p.2)) ∧
    (∀ x ∈ xs, ∃ E2, TgB X.K g vs (enc x) E0 E2 ∧ ∀ (s : Shared) (H : Hp) (C : Addr) (cl : List (Str × Addr)) (fp : List Addr),
      WIf (X.blk s H scope (compEnvC scope cl C X.env) fp) ifs E2 fun b E3 => (b = true → ∀ (s : Shared) (H : Hp) (C : Addr) (cl : List (Str × Addr)) (fp : List Addr), WE (X.blk s H scope (compEnvC scope cl C X.env) fp) elt E3 fun y E4 => G x = some y ∧ wipeE E4 vs = E0) ∧ (b = false → G x = none ∧ wipeE E3 vs = E0)) ∧
    kk (xs.filterMap G)
theorem lcX_inv {vs : List Nat} {m : Nat} {src : Nat → D} {w : List (Nat × D)} {E1 : EnvT} {kk : List D → EnvT → Prop} (h : LcX X elt ifs scope g vs m src w (wipeE E1 vs) fun ds => kk ds (wipeE E1 vs)) :
    ∃ I : Nat → List D → EnvT → Prop, I 0 [] (wipeE E1 vs) ∧ (∀ j acc E', j ≤ m → I j acc E' → ∀ p ∈ w, E'[p.1]? = some (some p.2)) ∧
      (∀ j acc E', j < m → I j acc E' → ∃ E2, TgB X.K g vs (src j) E' E2 ∧ ∀ (s : Shared) (H : Hp) (C : Addr) (cl : List (Str × Addr)) (fp : List Addr),
        WIf (X.blk s H scope (compEnvC scope cl C X.env) fp) ifs E2 fun b E3 => (b = true → ∀ (s : Shared) (H : Hp) (C : Addr) (cl : List (Str × Addr)) (fp : List Addr), WE (X.blk s H scope (compEnvC scope cl C X.env) fp) elt E3 fun y E4 => acc.length < 100000 ∧ I (j + 1) (acc ++ [y]) (wipeE E4 vs)) ∧ (b = false → I (j + 1) acc (wipeE E3 vs))) ∧
      ∀ acc E', I m acc E' → kk acc E' := by
  obtain ⟨α, xs, enc, G, hm, hl, hs, hw, ht, hk⟩ := h
  refine ⟨fun j acc E' => acc = (xs.take j).filterMap G ∧ E' = wipeE E1 vs, ⟨by simp, rfl⟩, ?_, ?_, ?_⟩
  · rintro j acc E' _ ⟨_, rfl⟩
    exact hw
  · rintro j acc E' hj ⟨rfl, rfl⟩
    have hj' : j < xs.length := by omega
    obtain ⟨E2, t1, t2⟩ := ht xs[j] (List.getElem_mem hj')
    refine ⟨E2, by rw [hs j hj']; exact t1, fun s H C cl fp => ?_⟩
    have tk := filterMap_take (G := G) hj'
    intro Z H' σ F Q he hk'
    refine t2 s H C cl fp Z H' σ F Q he fun b E3 Z2 H2 F2 ⟨q1, q2⟩ f => hk' b E3 Z2 H2 F2 ⟨fun hb s H C cl fp => ?_, fun hb => ?_⟩ f
    · refine WO.mono (q1 hb s H C cl fp) fun o E4 ⟨d, eo, e1, e2⟩ => ⟨d, eo, ?_, ?_, e2⟩
      · refine Nat.lt_of_le_of_lt (List.length_filterMap_le _ _) ?_
        rw [List.length_take]
        omega
      · rw [tk, e1]
        rfl
    · obtain ⟨e1, e2⟩ := q2 hb
      refine ⟨?_, e2⟩
      rw [tk, e1]
      simp
  · rintro acc E' ⟨rfl, rfl⟩
    rw [List.take_of_length_le (by omega)]
    exact hk
theorem wo_lcX (hc : X.calm = true) (hN : X.N.Nodup) (ok : BlkOk X.N X.env.scope scope own)
    (hg : ∀ (s : Shared) (H : Hp) (C : Addr) (cl : List (Str × Addr)) (fp : List Addr), PG (X.blk s H scope (compEnvC scope cl C X.env) fp) tg g)
    (h : WI X tg iter E fun w m src E1 => LcX X elt ifs scope g (own.map (·.2)) m src w (wipeE E1 (own.map (·.2))) fun ds => k (.val (.lst ds)) (wipeE E1 (own.map (·.2))))
    (hs : ∀ x, foldedSetIterable iter X.env x = pure x := by intro _; rfl) : WO X (.ListComp elt [⟨tg, iter, ifs, 0⟩] scope pos) E k :=
  wo_lc hc hN ok hg (WI.mono h fun w m src E1 q => lcX_inv (kk := fun ds E' => k (.val (.lst ds)) E') q) hs
theorem ws_setLcX {i : Nat} {y : Str} {py spos : Pos} {n : List Nat} {ks : KS} (hc : X.calm = true) (hN : X.N.Nodup) (hy : X.N[i]? = some y) (hyl : X.env.scope.names.lookup y = some .local) (hn : i ∉ n) (ok : BlkOk X.N X.env.scope scope own)
    (hg : ∀ (s : Shared) (H : Hp) (C : Addr) (cl : List (Str × Addr)) (fp : List Addr), PG (X.blk s H scope (compEnvC scope cl C X.env) fp) tg g)
    (h : WI X tg iter E fun w m src E1 => LcX X elt ifs scope g (own.map (·.2)) m src w (wipeE E1 (own.map (·.2))) fun ds => i < (wipeE E1 (own.map (·.2))).length ∧ ks.nx ((wipeE E1 (own.map (·.2))).set i (some (.lst ds))))
    (hsw : swapsWith (.ListComp elt [⟨tg, iter, ifs, 0⟩] scope pos) (some (.Name y py)) spos.line X.env = pure true)
    (hs : ∀ x, foldedSetIterable iter X.env x = pure x := by intro _; rfl) : WS X n (.Assign [.Name y py] (.ListComp elt [⟨tg, iter, ifs, 0⟩] scope pos) spos) E ks :=
  ws_setLc hc hN hy hyl hn ok hg (WI.mono h fun w m src E1 q => lcX_inv (kk := fun ds E' => i < E'.length ∧ ks.nx (E'.set i (some (.lst ds)))) q) hsw hs
end
end DL

namespace DL
open PySem PySem.Spec L2
variable [LamT]
def upto (n : Nat) : List Int := (List.range n).map fun i : Nat => (i : Int)
theorem rgV_upto (n : Int) : rgV 0 n = (upto n.toNat).map V.int := by
  unfold rgV upto
  rw [Int.sub_zero, List.map_map]
  exact List.map_congr_left fun i _ => by simp
section
variable {X : Cx} {a : Expr} {E : EnvT} {k : Opd → EnvT → Prop} {pos p p2 p3 : Pos}
/-- list(range(n)) -/
theorem wo_listR1 (hc : X.calm = true) (hg : Gl X "list") (hm : X.mg "list" = none) (hg2 : Gl X "range") (hm2 : X.mg "range" = none)
    (h : WO X a E fun o E1 => ∃ j : Int, o.get E1 = some (.int j) ∧ (0 ≤ j ∧ j ≤ 100000) ∧ k (.val (.lst ((upto j.toNat).map D.int))) E1)
    (hs : starEach [a] X.env = (false, eval a X.env) :: starEach [] X.env := by rfl)
    (hs2 : starEach [.Call (.Name "range" p) [a] [] p2] X.env = (false, eval (.Call (.Name "range" p) [a] [] p2) X.env) :: starEach [] X.env := by rfl) :
    WO X (.Call (.Name "list" p3) [.Call (.Name "range" p) [a] [] p2] [] pos) E k := by
  intro Z H σ F Q he hk
  refine wpE_by (pe_listRg hc hg hm (prg_1 hg2 hm2 pe_w hs) hs2) (h Z H σ F _ he fun o E1 Z1 H1 F1 G v ⟨j, g, hj, q⟩ f r => ?_)
  obtain ⟨G', r', _⟩ := r.use f.env g
  cases r'
  refine ⟨j, rfl, ⟨by omega, by omega, by omega, by omega, by omega⟩, fun l hl => ?_⟩
  rw [rgV_upto]
  have gr : Grow H1 (upd H1 l (.lst ((upto j.toNat).map V.int))) [l] := Grow.new hl
  have r0 : Rep X.K Z1 (upd H1 l (.lst ((upto j.toNat).map V.int))) (.lst ((upto j.toNat).map D.int)) (.ref l) [l] := .lst upd_same (Reps.ofInts _)
  exact hk _ E1 Z1 _ F1 [l] _ q (f.grow gr) r0
/-- sorted of a list or a tuple of ints -/
theorem wo_sortedS (hg : Gl X "sorted") (hm : X.mg "sorted" = none) (h : WO X a E fun o E1 => ∃ ns : List Int, (o.get E1).bind D.seq = some (ns.map D.int) ∧ ∀ ns' : List Int, ns'.Perm ns → ns'.Pairwise (· ≤ ·) → k (.val (.lst (ns'.map D.int))) E1)
    (hs : starEach [a] X.env = (false, eval a X.env) :: starEach [] X.env := by rfl) : WO X (.Call (.Name "sorted" p) [a] [] pos) E k :=
  wo_b1 (pe_callB (CallR.or cr_sortedI cr_sortT) hg hm (by decide +kernel) pa_w (he := hs)) (WO.mono h fun o E1 ⟨ns, g1, kk⟩ => by
    cases g : o.get E1 with
    | none => rw [g] at g1; simp at g1
    | some d1 =>
      rw [g] at g1
      refine ⟨d1, rfl, fun d => ∃ ns' : List Int, ns'.Perm ns ∧ ns'.Pairwise (· ≤ ·) ∧ d = .lst (ns'.map D.int), fun Z H v G rv Q q => ?_, fun d ⟨ns', h1, h2, e⟩ => by rw [e]; exact kk ns' h1 h2⟩
      obtain ⟨x, vs, G', rfl, hs, rs⟩ := rv.seq (by simpa using g1)
      have ev := rs.ints
      subst ev
      rcases hs with hs | hs
      · exact .inl ⟨x, ns, rfl, hs, fun ns' l h1 h2 hl => q _ _ _ [l] ⟨ns', h1, h2, rfl⟩ (.lst upd_same (Reps.ofInts ns')) (Grow.new hl)⟩
      · exact .inr ⟨x, ns, rfl, hs, fun ns' l h1 h2 hl => q _ _ _ [l] ⟨ns', h1, h2, rfl⟩ (.lst upd_same (Reps.ofInts ns')) (Grow.new hl)⟩) hs
end
end DL

/-! the driver's looks at a goal's head -/
namespace DL
open PySem PySem.Spec L2
variable [LamT]
section
variable {X : Cx} {n : List Nat} {E : EnvT} {ks : KS} {k : Opd → EnvT → Prop} {kb : Bool → EnvT → Prop} {pos pos2 pos3 : Pos} {e a b c o : Expr} {es rs : List Expr} {st : Stmt} {sts : List Stmt} {x : Str} {x1 : Nat}
theorem gWSs (h : WSs X n sts E ks) : WSs X n sts E ks := h
theorem gWS (h : WS X n st E ks) : WS X n st E ks := h
theorem gWG {d : D} {kg : EnvT → Prop} (h : WG X n e d E kg) : WG X n e d E kg := h
theorem gWE {kd : D → EnvT → Prop} (h : WE X e E kd) : WE X e E kd := h
theorem gWT (h : WT X e E kb) : WT X e E kb := h
theorem gWW (h : WW X e E kb) : WW X e E kb := h
theorem gWO (h : WO X e E k) : WO X e E k := h
theorem gName (h : WO X (.Name x pos) E k) : WO X (.Name x pos) E k := h
theorem gENm {kd : D → EnvT → Prop} (h : WE X (.Name x pos) E kd) : WE X (.Name x pos) E kd := h
theorem gCon {v : Const} (h : WO X (.Constant v x1 pos) E k) : WO X (.Constant v x1 pos) E k := h
theorem gBin {op : Operator} (h : WO X (.BinOp a op b pos) E k) : WO X (.BinOp a op b pos) E k := h
theorem gBool {op : BoolOp} (h : WO X (.BoolOp op es pos) E k) : WO X (.BoolOp op es pos) E k := h
theorem gCmp {ops : List CmpOp} (h : WO X (.Compare a ops es pos) E k) : WO X (.Compare a ops es pos) E k := h
theorem gSub (h : WO X (.Subscript a b pos) E k) : WO X (.Subscript a b pos) E k := h
theorem gCalN {kw : List Keyword} (h : WO X (.Call (.Name x pos2) es kw pos) E k) : WO X (.Call (.Name x pos2) es kw pos) E k := h
theorem gCalA {kw : List Keyword} (h : WO X (.Call (.Attribute o x pos2) es kw pos) E k) : WO X (.Call (.Attribute o x pos2) es kw pos) E k := h
theorem gWA {kA : List Opd → EnvT → Prop} (h : WA X es E kA) : WA X es E kA := h
end
end DL

namespace DL
open PySem PySem.Spec L2
variable [LamT]
section
variable {X : Cx} {n : List Nat} {E : EnvT}
theorem cmp_neB {a b : Bool} : CmpD X .NotEq (.bl a) (.bl b) (!decide (a = b)) := .mk op_ne fun Z H v1 v2 G1 G2 r1 r2 Q q => by
  cases r1
  cases r2
  refine ⟨rfl, ?_⟩
  have e : (!decide (V.bl a = V.bl b)) = !decide (a = b) := by cases a <;> cases b <;> rfl
  rw [e]
  exact q _ H [] (.bl _) Grow.refl
theorem cmp_eqB {a b : Bool} : CmpD X .Eq (.bl a) (.bl b) (decide (a = b)) := .mk op_eq fun Z H v1 v2 G1 G2 r1 r2 Q q => by
  cases r1
  cases r2
  refine ⟨rfl, ?_⟩
  have e : (decide (V.bl a = V.bl b)) = decide (a = b) := by cases a <;> cases b <;> rfl
  rw [e]
  exact q _ H [] (.bl _) Grow.refl
/-- three names as a target, things that own nothing -/
theorem wg_tri {i j l kk : Nat} {x y z : Str} {d1 d2 d3 : D} {k : EnvT → Prop} {px py pz pt : Pos} (hc : X.calm = true) (hN : X.N.Nodup) (hi : X.N[i]? = some x) (hj : X.N[j]? = some y) (hl : X.N[l]? = some z) (hx : Loc X.env.scope x) (hy : Loc X.env.scope y) (hz : Loc X.env.scope z)
    (hni : i ∉ n) (hnj : j ∉ n) (hnl : l ∉ n) (hE : i < E.length ∧ j < E.length ∧ l < E.length) (im : Imm d1 ∧ Imm d2 ∧ Imm d3)
    (h : k (((E.set i (some d1)).set j (some d2)).set l (some d3)))
    (hf : X.fn x = true ∨ X.env.scope.names.lookup x = some .local) (hf2 : X.fn y = true ∨ X.env.scope.names.lookup y = some .local) (hf3 : X.fn z = true ∨ X.env.scope.names.lookup z = some .local)
    (hp : ∀ t, PGs X [.Name x px, .Name y py, .Name z pz] t → PG X (.Tuple [.Name x px, .Name y py, .Name z pz] kk pt) (gTup X.K 3 t))
    (hp1 : ∀ t u, PG X (.Name x px) t → PGs X [.Name y py, .Name z pz] u → PGs X [.Name x px, .Name y py, .Name z pz] (gCons t u))
    (hp2 : ∀ t u, PG X (.Name y py) t → PGs X [.Name z pz] u → PGs X [.Name y py, .Name z pz] (gCons t u)) (hp3 : ∀ t, PG X (.Name z pz) t → PGs X [.Name z pz] (gCons t gNil)) :
    WG X n (.Tuple [.Name x px, .Name y py, .Name z pz] kk pt) (.tup [d1, d2, d3]) E k := by
  intro Z H σ F G v Q he r nd nz hk
  refine wpG_by (hp _ (hp1 _ _ (pg_name hN hi hx hf) (hp2 _ _ (pg_name hN hj hy hf2) (hp3 _ (pg_name hN hl hz hf3))))) ?_
  cases r with
  | tup hs rs =>
    cases rs with
    | cons r1 rs =>
      cases rs with
      | cons r2 rs =>
        cases rs with
        | cons r3 rs =>
          cases rs
          rename_i v1 G1 v2 G2 v3 G3
          have nF : ([] ++ F).Nodup := he.nd
          obtain ⟨F1, h1, m1⟩ := he.asg (r1.nils im.1) he.nd (fun a ha => nomatch ha) hE.1
          obtain ⟨F2, h2, m2⟩ := h1.asg (r2.nils im.2.1) h1.nd (fun a ha => nomatch ha) (by rw [List.length_set]; exact hE.2.1)
          obtain ⟨F3, h3, m3⟩ := h2.asg (r3.nils im.2.2) h2.nd (fun a ha => nomatch ha) (by rw [List.length_set, List.length_set]; exact hE.2.2)
          have sub : ∀ a ∈ F3, a ∈ F := fun a ha => by
            rcases m3 a ha with q | q
            · exact nomatch q
            · rcases m2 a q with q | q
              · exact nomatch q
              · rcases m1 a q with q | q
                · exact nomatch q
                · exact q
          refine ⟨_, _, rfl, hs, rfl, v1, [v2, v3], rfl, v2, [v3], rfl, v3, [], rfl, rfl, ?_⟩
          exact hk _ Z H _ F3 h ⟨h3, h3.nd, (fun a q => nomatch q), Stp.refl.sub fun a ha => List.mem_append_right _ (sub a ha), ((Pin.set hni).trans (Pin.set hnj)).trans (Pin.set hnl)⟩
end
end DL

namespace DL
open PySem PySem.Spec L2
variable [LamT]

/-! ### freezing a slot -/
mutual
def frz : D → D
  | .lst ds => .fz (frzs ds)
  | .dic ks ds => .fd ks (frzs ds)
  | .tup ds => .tup (frzs ds)
  | .ow _ ds => .fz (frzs ds)
  | .obj C fs ds => .fo C fs (frzs ds)
  | d => d
def frzs : List D → List D
  | [] => []
  | d :: ds => frz d :: frzs ds
end
mutual
def canF : D → Bool
  | .lst ds => canFs ds
  | .tup ds => canFs ds
  | .non => true
  | .bl _ => true
  | .int _ => true
  | .str _ => true
  | .fz _ => true
  | .fd _ _ => true
  | .dic _ ds => canFs ds
  | .ow _ ds => canFs ds
  | .fw _ => true
  | .fo _ _ _ => true
  | .obj _ _ ds => canFs ds
  | _ => false
def canFs : List D → Bool
  | [] => true
  | d :: ds => canF d && canFs ds
end
section
variable {K : PySem.W.Frag} {Z Z' : Addr → Prop} {H : Hp} {F G R : List Addr} {σ : Sl} {E : EnvT}
mutual
theorem Rep.frz (hz : ∀ a, Z a → Z' a) : ∀ {d : D} {v : V} {G : List Addr}, Rep K Z H d v G → canF d = true → (∀ a ∈ G, Z' a) → Rep K Z' H (DL.frz d) v []
  | _, _, _, .non, _, _ => .non
  | _, _, _, .bl b, _, _ => .bl b
  | _, _, _, .int i, _, _ => .int i
  | _, _, _, .str x, _, _ => .str x
  | _, _, _, .tup e r, h, g => .tup e (Reps.frz hz r (by simpa [canF] using h) g)
  | _, _, _, .lst e r, h, g => .fz (.inl ⟨g _ List.mem_cons_self, .inl e⟩) (Reps.frz hz r (by simpa [canF] using h) fun a ha => g a (List.mem_cons_of_mem _ ha))
  | _, _, _, .fz e r, _, _ => .fz (e.imp_left fun q => ⟨hz _ q.1, q.2⟩) (r.kp ⟨hz, fun _ _ q => q, fun _ _ _ _ q => q, fun _ _ _ q => q⟩ fun a ha => nomatch ha)
  | _, _, _, .pt _ _ _, h, _ => by simp [canF] at h
  | _, _, _, .dic e l r, h, g => .fd ⟨g _ List.mem_cons_self, e, l⟩ (Reps.frz hz r (by simpa [canF] using h) fun a ha => g a (List.mem_cons_of_mem _ ha))
  | _, _, _, .fd e r, _, _ => .fd ⟨hz _ e.1, e.2⟩ (r.kp ⟨hz, fun _ _ q => q, fun _ _ _ _ q => q, fun _ _ _ q => q⟩ fun a ha => nomatch ha)
  | _, _, _, .obj e l r, h, g => .fo (g _ List.mem_cons_self) e l (Reps.frz hz r (by simpa [canF] using h) fun a ha => g a (List.mem_cons_of_mem _ ha))
  | _, _, _, .op _, h, _ => by simp [canF] at h
  | _, _, _, .exc _, h, _ => by simp [canF] at h
  | _, _, _, .exd _ _, h, _ => by simp [canF] at h
  | _, _, _, .ow e r, h, g => .fz (.inl ⟨g _ List.mem_cons_self, .inl e⟩) (Reps.frz hz r (by simpa [canF] using h) fun a ha => g a (List.mem_cons_of_mem _ ha))
  | _, _, _, .fw z e n, _, _ => .fw (hz _ z) e n
  | _, _, _, .fo z e l r, _, _ => .fo (hz _ z) e l (r.kp ⟨hz, fun _ _ q => q, fun _ _ _ _ q => q, fun _ _ _ q => q⟩ fun a ha => nomatch ha)
theorem Reps.frz (hz : ∀ a, Z a → Z' a) : ∀ {ds : List D} {vs : List V} {G : List Addr}, Reps K Z H ds vs G → canFs ds = true → (∀ a ∈ G, Z' a) → Reps K Z' H (frzs ds) vs []
  | _, _, _, .nil, _, _ => .nil
  | _, _, _, .cons r rs, h, g => by
    simp only [canFs, Bool.and_eq_true] at h
    exact .cons (F := []) (G := []) (Rep.frz hz r h.1 fun a ha => g a (List.mem_append_left _ ha)) (Reps.frz hz rs h.2 fun a ha => g a (List.mem_append_right _ ha))
end
end
section
variable {X : Cx} {n : List Nat} {E : EnvT} {ks : KS} {sts : List Stmt} {i : Nat} {d : D}
/-- a slot's lists are known from here on: read, never written -/
theorem wss_frz (i : Nat) (hE : E[i]? = some (some d)) (hc : canF d = true) (h : WSs X n sts (E.set i (some (frz d))) ks) : WSs X n sts E ks := by
  intro Z H σ F Dd he hk
  obtain ⟨v, G, R, h1, h2, h3, h4⟩ := he.r.get hE
  have nF := List.nodup_append.mp (h4.nodup_iff.mp he.nd)
  have inF : ∀ a ∈ G, a ∈ F := fun a ha => h4.mem_iff.mpr (List.mem_append_left _ ha)
  have kp : Kp Z H (fun b => Z b ∨ b ∈ G) H := ⟨fun _ z => .inl z, fun _ _ z => z, fun _ _ _ _ z => z, fun _ _ _ z => z⟩
  have hl : i < E.length := (List.getElem?_eq_some_iff.mp hE).1
  obtain ⟨F', e1, e2⟩ := (h3.kp kp fun _ _ _ _ q => q).put (i := i) (d := frz d) (v := v) (G := []) (by simp [hl]) h1 (h2.frz (fun _ z => .inl z) hc fun a ha => .inr ha)
  rw [List.set_set] at e1
  have mem : ∀ a ∈ F', a ∈ R := fun a ha => by simpa using e2.mem_iff.mp ha
  have sub : ∀ a ∈ F', a ∈ F := fun a ha => h4.mem_iff.mpr (List.mem_append_right _ (mem a ha))
  have env : EnvS X.K (fun b => Z b ∨ b ∈ G) H (E.set i (some (frz d))) σ F' := ⟨e1, e2.nodup_iff.mpr (by simpa using nF.2.1), fun a ha z => by
    rcases z with z | z
    · exact he.nz a (sub a ha) z
    · exact nF.2.2 a z a (mem a ha) rfl, ⟨fun a z => by
    rcases z with z | z
    · exact he.zt.th a z
    · exact he.r.mem a (inF a z), he.zt.tb⟩⟩
  refine h (fun b => Z b ∨ b ∈ G) H σ F' Dd env (hk.after ⟨env, env.nd, (fun a q => nomatch q), ?_, Pin.refl⟩)
  exact ⟨fun _ z => .inl z, fun a z => z.imp_right fun q => .inl (inF a q), fun _ _ e _ _ => e, fun h => h, fun _ o e n => ⟨o, e, n⟩, fun a ha => .inl (sub a (by simpa using ha)), fun _ _ q => q, fun _ _ _ _ q => q, fun _ _ _ q => q⟩
end

/-! ### stores into lists -/
section
variable {K : PySem.W.Frag} {Z : Addr → Prop} {H : Hp}
theorem Reps.inner {es : List D} (im : Imms es) : ∀ {ds : List D} {vs : List V} {G : List Addr} {j : Nat}, Reps K Z H ds vs G → ds[j]? = some (.lst es) → G.Nodup →
    ∃ b ws, vs[j]? = some (.ref b) ∧ H b = some (.lst ws) ∧ Reps K Z H es ws [] ∧ b ∈ G ∧ (∀ H' es' ws', (∀ y ∈ G, y ≠ b → ∀ o, NTb o → H y = some o → H' y = some o) → Kp Z H Z H' → H' b = some (.lst ws') → Reps K Z H' es' ws' [] → Reps K Z H' (ds.set j (.lst es')) vs G)
  | _, _, _, _, .nil, h, _ => by simp at h
  | _, _, _, 0, .cons r1 rs1, h, nd => by
    have ndp := List.nodup_append.mp nd
    have e := Option.some.inj (by simpa using h)
    subst e
    cases r1 with
    | lst hb rr =>
      rename_i b ws Fb
      have ef := rr.imm im
      subst ef
      refine ⟨b, _, rfl, hb, rr, List.mem_append_left _ List.mem_cons_self, fun H' es' ws' hk kp hb' rn => ?_⟩
      refine .cons (.lst hb' rn) (rs1.kp kp fun y hy o nt ho => hk y (List.mem_append_right _ hy) (fun q => ?_) o nt ho)
      subst q
      exact ndp.2.2 y List.mem_cons_self y hy rfl
  | _, _, _, j + 1, .cons r1 rs1, h, nd => by
    have ndp := List.nodup_append.mp nd
    obtain ⟨b, ws, h1, h2, h3, h4, h5⟩ := Reps.inner im rs1 (by simpa using h) ndp.2.1
    refine ⟨b, ws, by simpa using h1, h2, h3, List.mem_append_right _ h4, fun H' es' ws' hk kp hb' rn => ?_⟩
    refine .cons (r1.kp kp fun y hy o nt ho => hk y (List.mem_append_left _ hy) (fun q => ?_) o nt ho) (h5 H' es' ws' (fun y hy => hk y (List.mem_append_right _ hy)) kp hb' rn)
    subst q
    exact ndp.2.2 y hy y h4 rfl
end
theorem ixN_nat {m j : Nat} (h : j < m) : ixN m (j : Int) = some j := by
  unfold ixN
  simp
  omega
section
variable {X : Cx} {n : List Nat} {e e1 e2 : Expr} {E : EnvT} {pos p p2 : Pos} {i : Nat} {x : Str} {d : D} {k : EnvT → Prop}
/-- x[e1][e2] = .., a list of lists -/
theorem wg_lput2 (hN : X.N[i]? = some x) (im : Imm d) (hb : PlainIx e1)
    (h : WO X e1 E fun o1 E1 => ∃ (j1 : Nat) (ds : List D) (es : List D), o1.get E1 = some (.int (j1 : Int)) ∧ E1[i]? = some (some (.lst ds)) ∧ ds[j1]? = some (.lst es) ∧ Imms es ∧
      WO X e2 (E1.set i none) fun o2 E2 => ∃ j2 : Nat, E2[i]? = some none ∧ o2.get E2 = some (.int (j2 : Int)) ∧ j2 < es.length ∧ k (E2.set i (some (.lst (ds.set j1 (.lst (es.set j2 d)))))))
    (hE : ∃ ds0, E[i]? = some (some (.lst ds0)))
    (hv : Vis X.env.scope x) (hdb : (x == ("__debug__" : Str)) = false) (hcd : (x == ("__classdict__" : Str)) = false)
    (ha : ∀ v, assign (.Subscript (.Subscript (.Name x p) e1 p2) e2 pos) X.env v = (do
      let ov ← holding [v] (eval (.Subscript (.Name x p) e1 p2) X.env)
      let iv ← holding [v, ov] (eval e2 X.env)
      standAt pos
      holding [v, ov, iv] (setItem ov iv v)
      release [v, ov, iv] []) := by intro _; rfl) : WG X n (.Subscript (.Subscript (.Name x p) e1 p2) e2 pos) d E k := by
  intro Z H σ F G v Q he r nd nz hk
  obtain ⟨ds0, hE⟩ := hE
  obtain ⟨a0, vs0, Fd0, R0, hv0, hl0, _⟩ := he.lst hE
  have eG := r.imm im
  subst eG
  refine wpG_by (pg_sub (pe_ix ix_list (pe_slot hN hv hdb hcd) pe_w hb) pe_w set_list ha) ?_
  refine ⟨_, hv0, h Z H σ F _ he fun o1 E1 Z1 H1 F1 G1 w1 ⟨j1, ds, es, g1, hE1, hj1, ime, q1⟩ f1 r1 => ?_⟩
  obtain ⟨Gj, rj, _⟩ := r1.use f1.env g1
  cases rj
  obtain ⟨a1, vs1, Fd, R, hv1, hl1, rd, hR, hp1⟩ := f1.env.lst hE1
  rw [hv0] at hv1
  cases hv1
  have nG := (List.nodup_append.mp (hp1.nodup_iff.mp f1.env.nd)).1
  obtain ⟨b, ws, hb1, hb2, _, _, _⟩ := rd.inner ime hj1 (List.nodup_cons.mp nG).2
  refine ⟨a0, vs1, (j1 : Int), .ref b, rfl, rfl, SqL.of hl1, by rw [ix_nat (by omega), Int.toNat_natCast]; exact hb1, ?_⟩
  have nF := List.nodup_append.mp (hp1.nodup_iff.mp f1.env.nd)
  have RF : ∀ y ∈ R, y ∈ F1 := fun y hy => hp1.mem_iff.mpr (List.mem_append_right _ hy)
  have GF : ∀ y ∈ a0 :: Fd, y ∈ F1 := fun y hy => hp1.mem_iff.mpr (List.mem_append_left _ hy)
  have eR : EnvS X.K Z1 H1 (E1.set i none) σ R := ⟨hR, nF.2.1, fun y hy => f1.env.nz y (RF y hy), f1.env.zt⟩
  refine q1 Z1 H1 σ R _ eR fun o2 E2 Z2 H2 F2 G2 w2 ⟨j2, hE2, g2, hj2, kk⟩ f2 r2 => ?_
  obtain ⟨Gk, rk, _⟩ := r2.use f2.env g2
  cases rk
  have hG1 : ∀ y ∈ a0 :: Fd, ∃ u, H1 y = some u ∧ NTb u := fun y hy => f1.env.r.mem y (GF y hy)
  have nGR : ((a0 :: Fd) ++ R).Nodup := hp1.nodup_iff.mp f1.env.nd
  have f2n := f2.nil
  obtain ⟨nG2, offG⟩ := f2n.st.apart hG1 nGR (by simpa using f2.env.nd)
  have nzG := f2n.st.nz hG1 offG (fun y hy => f1.env.nz y (GF y hy))
  have rep1 : Rep X.K Z1 H1 (.lst ds) (.ref a0) (a0 :: Fd) := .lst hl1 rd
  have rep2 := rep1.step f2n.st offG
  obtain ⟨F3, e3, p3⟩ := f2.env.r.put hE2 hv0 rep2
  have nG2' : ((a0 :: Fd) ++ F2).Nodup := by simpa using nG2
  have m3 : ∀ y ∈ F3, y ∈ a0 :: Fd ∨ y ∈ F2 := fun y hy => List.mem_append.mp (p3.mem_iff.mp hy)
  have env3 : EnvS X.K Z2 H2 (E2.set i (some (.lst ds))) σ F3 := ⟨e3, p3.nodup_iff.mpr nG2', fun y hy => (m3 y hy).elim (nzG y) (f2.env.nz y), f2.env.zt⟩
  have li : i < E2.length := (List.getElem?_eq_some_iff.mp hE2).1
  have hE3 : (E2.set i (some (.lst ds)))[i]? = some (some (.lst ds)) := by simp [li]
  obtain ⟨a2, vs2, Fd2, R2, hv2, hl2, rd2, hR2, hp2⟩ := env3.lst hE3
  rw [hv0] at hv2
  cases hv2
  have e12 : vs2 = vs1 := by
    have q := f2n.st.fr a0 _ hl1 (offG a0 List.mem_cons_self) ntb_lst
    rw [hl2] at q
    cases q
    rfl
  subst e12
  have nGd := (List.nodup_append.mp (hp2.nodup_iff.mp env3.nd)).1
  obtain ⟨b', ws', hc1, hc2, hc3, hc4, hc5⟩ := rd2.inner ime hj1 (List.nodup_cons.mp nGd).2
  rw [hb1] at hc1
  cases hc1
  have b0 : b ≠ a0 := fun q => (List.nodup_cons.mp nGd).1 (q ▸ hc4)
  have sb : Stp Z2 H2 [b] Z2 (upd H2 b (.lst (ws'.set j2 v))) [b] := Stp.upd (by simp) (env3.nz b (hp2.mem_iff.mpr (List.mem_append_left _ (List.mem_cons_of_mem _ hc4)))) (lst_nt hc2)
  have rv2 : Rep X.K Z2 H2 d v [] := (r.step (f1.nil.st) fun y hy => nomatch hy).step f2n.st fun y hy => nomatch hy
  have hd0 : es[j2]? = some es[j2] := List.getElem?_eq_getElem hj2
  have rnew : Reps X.K Z2 (upd H2 b (.lst (ws'.set j2 v))) (es.set j2 d) (ws'.set j2 v) [] := (hc3.setI hd0 (imms_get ime hd0) rv2).step sb fun y hy => nomatch hy
  have rep3 : Rep X.K Z2 (upd H2 b (.lst (ws'.set j2 v))) (.lst (ds.set j1 (.lst (es.set j2 d)))) (.ref a0) (a0 :: Fd2) :=
    .lst (by rw [upd_ne (Ne.symm b0)]; exact hl2) (hc5 _ _ _ (fun y hy hyb o _ ho => by rw [upd_ne hyb]; exact ho) sb.kp upd_same rnew)
  obtain ⟨F4, e4, s4⟩ := env3.chgN hE3 hv0 (.lst hl2 rd2) hR2 hp2 (List.mem_cons_of_mem _ hc4) (lst_nt hc2) (fun y hy => hy) nGd rep3
  rw [List.set_set] at e4
  refine ⟨b, ws', (j2 : Int), j2, rfl, rfl, hc2, ixN_nat (by rw [← hc3.len]; exact hj2), ?_⟩
  have s23 : Stp Z1 H1 F1 Z2 H2 F3 := f2n.st.more RF fun y hy => (m3 y hy).elim (fun q => .inr (GF y q)) (fun q => .inl (by simpa using q))
  exact hk _ Z2 _ σ F4 kk ⟨e4, e4.nd, (fun y hy => nomatch hy), (f1.nil.st.trans s23).trans s4, Pin.refl⟩
end
end DL

namespace DL
open PySem PySem.Spec L2
variable [LamT]
open PyProof.Rows

/-! ### tuple * int, a factor of one too -/
theorem tupMulOne (l : Addr) (items : Array Value) (n : Nat) (dd : Option Addr) (sl : Array (Option Value)) (u : Tok) :
    Meets (Builtin.«tuple.__mul__» ⟨[.ref l, .int 1 u], []⟩) (fun _ R s => s.heap.get? l = some { cls := .type "tuple", dict := dd, data := .seq items n, slots := sl } ∧ R (.ok (.ret (Value.ref l))) s) :=
  .of_wp fun prog w A R s ⟨hl, h⟩ => by
    obtain ⟨hp, g, d, tk, os⟩ := s
    have f1 := AutoSeq1.idx_int
    wp_walk using wpAny_loadPart' hl
    exact ⟨_, rfl, h⟩
def rTup1 (K : PySem.W.Frag) : R2 := fun x y H Q => ∃ l xs, x = .ref l ∧ y = .int 1 ∧ SqT K H l xs ∧ Q (.ref l) H
section
variable {X : Cx}
theorem op_tup1 : OpR X (binaryOp .Mult) (rTup1 X.K) := by
  intro pins s σ H x y v u Q I rx ry h
  obtain ⟨l, xs, rfl, rfl, hT, q⟩ := h
  cases rx
  obtain ⟨t, rfl⟩ := ry
  obtain ⟨its, r, ⟨⟨cls, dd, data, sl⟩, ho, hc, n, hd⟩, hs⟩ := I.tuple hT
  simp only at hc hd
  subst hc hd
  have hty : s.TypeIs (.ref l) "tuple" := ⟨_, ho, rfl⟩
  refine wpAny_binaryOp_repeat_ref (T := "tuple") (U := "int") (by decide) hty (fun s2 => typeIs_int s2 1 t) noFill_tuple_mul F.fills_int_mul F.slot_int_rmul repeat_tuple F.slot_int_index.lookup ?_
  refine call_meets F.slot_int_rmul (typeIs_int s 1 t) F.entry_int_rmul (F.args_int_rmul_2 _ _) (int_rmul_tuple 1 t l its.toArray n dd sl) ⟨ho, rfl, hty, ?_⟩
  exact call_meets F.slot_tuple_mul hty F.entry_tuple_mul (F.args_tuple_mul_2 _ _) (tupMulOne l its.toArray n dd sl t) ⟨ho, .ref l, H, I, rfl, q⟩
end
/-! ### products by trees -/
inductive MulE : D → D → D → Prop
  | base {d1 d2 d : D} : MulD d1 d2 d → MulE d1 d2 d
  | tup {d1 : D} {ds : List D} {j : Int} : d1.tseq = some ds → Imms ds → ds ≠ [] → (1 ≤ j ∧ j ≤ 1000) → ds.length ≤ 1000 → MulE d1 (.int j) (.tup (List.replicate j.toNat ds).flatten)
section
variable {X : Cx} {a b : Expr} {E : EnvT} {k : Opd → EnvT → Prop} {pos : Pos}
theorem op2_tup {K : PySem.W.Frag} {d1 : D} {ds : List D} {j : Int} (h1 : d1.tseq = some ds) (im : Imms ds) (ne : ds ≠ []) (hj : 1 ≤ j ∧ j ≤ 1000) (hl : ds.length ≤ 1000) :
    Op2 K (fun x y H Q => rRepT K x y H Q ∨ rTup1 K x y H Q) d1 (.int j) (.tup (List.replicate j.toNat ds).flatten) := fun Z H v1 v2 G1 G2 r1 r2 Q q => by
  cases r2
  obtain ⟨a, vs, rfl, hs, rs⟩ := r1.tseq h1
  have l1 := rs.len
  by_cases e : j = 1
  · subst e
    refine .inr ⟨a, vs, rfl, rfl, hs, q _ H [] (.tup hs ?_) Grow.refl⟩
    simpa using rs.nils im
  · refine .inl ⟨a, j, vs, rfl, rfl, hs, fun z => ne (List.eq_nil_of_length_eq_zero (by rw [l1, z]; rfl)), by omega, hj.2, by omega, fun p hp => q _ _ [] (.tup (SqT.of upd_same) (((rs.nils im).rep j.toNat).grow (Grow.new0 hp))) (Grow.new0 hp)⟩
theorem wo_mulE (h : WO X a E fun o1 E1 => WO X b E1 fun o2 E2 => ∃ d1 d2 d, o1.get E2 = some d1 ∧ o2.get E2 = some d2 ∧ MulE d1 d2 d ∧ k (.val d) E2) : WO X (.BinOp a .Mult b pos) E k :=
  wo_bin ((op_mul.or op_rep).or (op_repT.or op_tup1)) (WO.mono h fun o1 E1 q => WO.mono q fun o2 E2 ⟨d1, d2, d, g1, g2, ad, kk⟩ => ⟨d1, d2, d, g1, g2, by
    cases ad with
    | base ad =>
      cases ad with
      | int hc => exact ((op2_I hc fun _ _ => .int _).or1).or1
      | lst i1 hj hl => exact ((op2_repL i1 hj hl).or2).or1
    | tup t1 im ne hj hl => exact (op2_tup t1 im ne hj hl).or2, kk⟩)
end
end DL

/-! an exception that was caught stays a value: its object is tracked from the clause's end on -/
namespace DL
open PySem PySem.Spec L2
variable [LamT]
open PyProof.Rows
section
variable {X : Cx} {pins : List (Addr × Obj)} {σ : List (Option V)} {H : Hp} {s : Shared}
theorem exT_ok {P : Program} {w : World} {h : Heap} {a : Addr} {cls : Value} {d : Option Addr} {ob : Obj} (e : h.get? a = some ob) (h1 : ob.cls = cls) (h2 : ob.dict = d) (h3 : ∃ vs, ob.data = .fields vs) : ObjOk P w H h a (exT a cls d) :=
  ⟨⟨ob, e, h1, h2, h3⟩, ⟨ob, e⟩, fun _ _ ⟨o, q, r⟩ k => ⟨o, k o q, r⟩⟩
/-- a pinned object that is none of the entry's is tracked -/
theorem Inv.track {a : Addr} {ob : Obj} (I : L2.Inv X ((a, ob) :: pins) σ H s) (hn : X.s_0.heap.get? a = none) (others : ∀ p ∈ X.pn ++ pins, p.1 ≠ a) (hf : ∃ vs, ob.data = .fields vs) : L2.Inv X pins σ (upd H a (exT a ob.cls ob.dict)) s := by
  obtain ⟨hob, hHa, hloc, hfs, hcell⟩ := I.pin (a, ob) (by simp)
  dsimp only at hob hHa hloc hfs hcell
  have n0 : ∀ b o, X.s_0.heap.get? b = some o → b ≠ a := fun b o e z => by rw [z, hn] at e; cases e
  have keepN : ∀ b, b ≠ a → H b = none → upd H a (exT a ob.cls ob.dict) b = none := fun b hb e => by rw [upd_ne hb]; exact e
  refine ⟨I.ok, I.os, I.bare, ⟨I.base.keep, I.base.slot, fun b o e n hx => keepN b (n0 b o e) (I.base.free b o e n hx), I.base.there, fun b xs e => ?_, fun b o u e => ?_, fun b ps e => ?_⟩, I.loc, I.cell, keepN _ (Ne.symm hloc) I.free, fun x c e => ?_, fun p hp => ?_, fun b u e => ?_, I.len⟩
  · have q := I.base.tups b xs e
    rw [upd_ne (ne_of_none q hHa)]
    exact q
  · have q := I.base.frzs b o u e
    rw [upd_ne (ne_of_none q hHa)]
    exact q
  · obtain ⟨m, q⟩ := I.base.tbls b ps e
    exact ⟨m, by rw [upd_ne (ne_of_none q hHa)]; exact q⟩
  · refine keepN c (fun z => ?_) (I.freeC x c e)
    obtain ⟨v, o, ho, hd⟩ := I.cell x c e
    rw [z, hob] at ho
    cases ho
    exact hcell v hd
  · have hp' : p ∈ X.pn ++ ((a, ob) :: pins) := by
      rcases List.mem_append.mp hp with q | q
      · exact List.mem_append_left _ q
      · exact List.mem_append_right _ (List.mem_cons_of_mem _ q)
    obtain ⟨e, n, ne, nf, d⟩ := I.pin p hp'
    exact ⟨e, keepN _ (others p hp) n, ne, nf, d⟩
  · by_cases hb : b = a
    · subst hb
      rw [upd_same] at e
      cases e
      exact exT_ok hob rfl rfl hf
    · rw [upd_ne hb] at e
      exact (I.hok b u e).stay (fun c v _ q => q) (fun c q => by rw [upd_ne (ne_of_none q hHa)]; exact q) fun c xs q => by rw [upd_ne (ne_of_none q hHa)]; exact q
end
end DL

namespace DL
open PySem PySem.Spec L2
variable [LamT]
open PyProof.Rows
/-- the wish of a clause whose exception stays a value behind it -/
def wTrk (K : PySem.W.Frag) (m : Nat) (c : Value) (i : Nat) (ts : Addr → Value → Option Addr → TS) (Wo : WX) (D : Ends) : WX := fun cls d σ H => σ.length = m →
  ∃ b, PySem.W.exmOne K cls c = some b ∧ (b = true → ∀ a, H a = none → ts a cls d { nx := fun σ' H' => D.nx (σ'.set i none) (upd H' a (exT a cls d)), rt := fun _ _ => False, bk := fun _ _ => False, ct := fun _ _ => False } (σ.set i (some (.ref a))) H) ∧ (b = false → Wo cls d σ H)
section
variable {X : Cx} {x nm : Str} {c : Value} {i : Nat} {body su : List Stmt} {s0 : Stmt} {np pos pos' : Pos} {tb : WX → TS} {ts : Addr → Value → Option Addr → TS} {Wo : WX}
theorem ps_try_trk (eqs : X.stack = X.env :: X.outer) (efr : X.env.frame = some X.env.locals) (hex : X.ex = []) (nodup : X.N.Nodup) (at_i : X.N[i]? = some nm) (isloc : X.env.kindOf nm = some .local) (named : Names X x c) (takes : Takes X Wo)
    (hbody : ∀ (W : WX) (pn : List (Addr × Obj)) (xe : Value → Shared → Prop), Takes (X.tr pn xe) W → PassesOwn (model X.prog X.w) X.A X.env xe → PSs (X.tr pn xe) body (tb W))
    (hsuite : ∀ (a : Addr) (ob : Obj) (cls : Value) (d : Option Addr) (pn : List (Addr × Obj)), Zc cls d ob → (∃ vs, ob.data = .fields vs) → PSs (X.suite a ((a, ob) :: pn)) (s0 :: su) (ts a cls d)) :
    PS X (.Try body [.ExceptHandler (some (.Name x np)) (some nm) (s0 :: su) pos'] [] [] pos) (fun D σ H => tb (wTrk X.K X.N.length c i ts Wo D) D σ H) := by
  refine ⟨fun pins s σ H D I reading => ?_⟩
  have okX := I.ok
  have framesX : X.A.frames = some (X.env :: X.outer) := by rw [okX.frames, eqs]
  have locN : Loc X.env.scope nm := .inl isloc
  refine wpAny_Try_except ?_
  have ran := (hbody (wTrk X.K X.N.length c i ts Wo D) (X.pn ++ pins) (fun e s₁ => wpAny (model X.prog X.w) X.A (noteFrame e X.env) (fun _ s₂ => wpAny (model X.prog X.w) X.A (setFlight e none) (fun _ s₃ => wpAny (model X.prog X.w) X.A (handleBy e X.env [.ExceptHandler (some (.Name x np)) (some nm) (s0 :: su) pos']) (SP X pins D) X.xe s₃) X.xe s₂) X.xe s₁) (fun u s' air => ?_) PassesOwn.looking).run [] s σ H D (I.toTry _) reading
  · refine wpAny_mono ran (fun fl s1 fin => ?_) (fun e s1 z => z)
    cases fl with
    | next =>
      obtain ⟨σ1, H1, J1, q1⟩ := fin
      exact wpAny_execs_nil ⟨σ1, H1, J1.ofTry okX, q1⟩
    | brk =>
      obtain ⟨σ1, H1, J1, q1⟩ := fin
      exact ⟨σ1, H1, J1.ofTry okX, q1⟩
    | cont =>
      obtain ⟨σ1, H1, J1, q1⟩ := fin
      exact ⟨σ1, H1, J1.ofTry okX, q1⟩
    | ret u =>
      obtain ⟨w1, σ1, H1, J1, rw1, q1⟩ := fin
      exact ⟨w1, σ1, H1, J1.ofTry okX, rw1, q1⟩
  · obtain ⟨a, B, sI, pins1, σ1, H1, cls, d, rfl, J1, nb, up, sky, na, eos, bare, wish⟩ := air
    obtain ⟨b, eb, yes, no⟩ := wish J1.len
    have J : Inv X pins σ1 H1 sI := J1.ofTry okX
    have sky2 : Sky B (X.env :: X.outer) a (Zc cls d) X.env.locals s'.heap := by rw [← eqs]; exact sky
    show wpAny (model X.prog X.w) X.A (noteFrame (.ref a) X.env) _ _ _
    refine Sky.land Zc.steady framesX efr sky2 fun hA flA upA => ?_
    have JA : Inv X pins σ1 H1 { s' with heap := hA } := J.landed nb flA.1 (up.trans upA) eos bare
    have aB : B.get? a = none := flA.2.1
    obtain ⟨obA, vsA, heA, zA, dA⟩ := flA.there
    have notFrame : ∀ {h : Heap} {o : Obj} {vs : Array Value}, h.FunFrames B (X.env :: X.outer) → h.get? a = some o → o.data = .fields vs → a ∉ frs (X.env :: X.outer) := fun {h o vs} ff e dd hm => by
      obtain ⟨_, o2, e2, hnf⟩ := ff.mem hm
      rw [e] at e2
      cases e2
      exact hnf _ dd
    have offF := notFrame flA.2.2.1 heA dA
    have offL : a ≠ X.env.locals := fun z => offF (List.mem_filterMap.mpr ⟨X.env, List.mem_cons_self, by rw [efr, z]⟩)
    have offO : a ∉ X.fs := fun hm => by
      obtain ⟨en, hen, q⟩ := List.mem_filterMap.mp hm
      exact offF (List.mem_filterMap.mpr ⟨en, List.mem_cons_of_mem _ hen, q⟩)
    have notI : ∀ o, sI.heap.get? a = some o → False := fun o e => by
      have q := nb a o e (by rw [eqs]; exact offF)
      rw [aB] at q
      cases q
    have new0 : X.s_0.heap.get? a = none := by
      cases e : X.s_0.heap.get? a with
      | none => rfl
      | some o =>
        obtain ⟨o2, e2⟩ := J.base.there a o e (by rw [hex]; exact fun z => nomatch z)
        exact (notI o2 e2).elim
    have others : ∀ p ∈ X.pn ++ pins, p.1 ≠ a := fun p hp z => by
      obtain ⟨e, _⟩ := J.pin p hp
      rw [z] at e
      exact notI _ e
    have SA := JA.suite heA dA na offL offO
    refine wpAny_handleBy_cons (codeAny_handlers_test ?_) (by intro q; cases q)
    have typ : PySem.W.Looks (model X.prog X.w) hA (typeOf (.ref a)) cls := fun A Q E s k q => wpAny_typeOf_ref (k _ _ heA) (by rw [zA.1]; exact q)
    have mat := PySem.W.exm_one (M := model X.prog X.w) (JA.kIn) typ eb
    have looked : ∀ {Q : Value → Shared → Prop} {E : Value → Shared → Prop}, Q c { s' with heap := hA } → wpAny (model X.prog X.w) (X.A.mark (some (.ref a))) (eval (.Name x np) X.env) Q E { s' with heap := hA } := fun {Q E} q => by
      obtain ⟨hg, hdbg, hm | ⟨hm, hv, hnn⟩⟩ := named
      · exact ld_glob (X := X.suite a ((a, obA) :: (X.pn ++ pins))) SA hg hm q hdbg
      · exact ld_blt (X := X.suite a ((a, obA) :: (X.pn ++ pins))) SA hg hm hv q hnn hdbg
    refine looked (mat.here ?_)
    cases b with
    | true =>
      refine codeAny_handlers_suite_as ?_
      refine HandSPX.lands_againZ flA fun hB flB upB => ?_
      have JB : Inv X pins σ1 H1 { s' with heap := hB } := J.landed nb flB.1 ((up.trans upA).trans upB) eos bare
      obtain ⟨obB, vsB, heB, zB, dB⟩ := flB.there
      have SB := JB.suite heB dB na offL offO
      refine store_ok (X := X.suite a ((a, obB) :: (X.pn ++ pins))) (v := .ref a) SB nodup at_i locN rfl (fun sC SC => ?_) (.inr isloc)
      refine wpAny_mono ((hsuite a obB cls d (X.pn ++ pins) zB ⟨_, dB⟩).run [] sC _ H1 _ SC (yes rfl a na)) (fun fl sD fin => ?_) (fun _ _ z => False.elim z)
      cases fl with
      | next =>
        obtain ⟨σD, HD, SD, qD⟩ := fin
        have JD : Inv X ((a, obB) :: pins) σD HD sD := ⟨okX, SD.os, SD.bare, SD.base, SD.loc, SD.cell, SD.free, SD.freeC, fun p hp => SD.pin p (by
          rw [List.append_nil]
          rcases List.mem_append.mp hp with q | q
          · exact List.mem_cons_of_mem _ (List.mem_append_left _ q)
          · rcases List.mem_cons.mp q with z | z
            · rw [z]; exact List.mem_cons_self
            · exact List.mem_cons_of_mem _ (List.mem_append_right _ z)), SD.hok, SD.len⟩
        refine gone_ok JD nodup at_i isloc fun sE JE => ?_
        have JF := DL.Inv.track JE new0 others ⟨_, dB⟩
        rw [zB.1, zB.2] at JF
        exact ⟨_, _, JF, qD⟩
      | brk => obtain ⟨_, _, _, z⟩ := fin; exact z.elim
      | cont => obtain ⟨_, _, _, z⟩ := fin; exact z.elim
      | ret u => obtain ⟨_, _, _, _, _, z⟩ := fin; exact z.elim
    | false =>
      show wpAny _ X.A (handleBy (.ref a) X.env []) _ _ _
      refine wpAny_handleBy_nil ?_
      obtain ⟨k1, k2, k3, ob, vs, T, oT, tv, heX, zX, dX, f1, rX⟩ := id flA
      unfold PySem.passOn
      refine wpAny_bind (wpAny_field heX dX f1 ?_)
      rw [if_neg (show ¬ ((Value.ref T == Value.none) = true) from by simp)]
      have last : wpAny (model X.prog X.w) X.A (setFlight (.ref a) X.env.frame) (fun _ sG => wpAny (model X.prog X.w) X.A (throw (.ref a) : Sem Flow) (SP X pins D) X.xe sG) X.xe { s' with heap := hA } := by
        rw [efr]
        refine HandSPX.setFlight_upZ flA fun hG heldG upG => wpAny_throw (takes _ _ ?_)
        exact ⟨a, B, sI, pins, σ1, H1, cls, d, rfl, J, nb, (up.trans upA).trans upG, .inr (.inr (by rw [eqs]; exact heldG)), na, eos, bare, no rfl⟩
      first
        | exact wpAny_bind (wpAny_pure (wpAny_bind last))
        | exact wpAny_bind last
end
end DL

/-! defs that raise: blocks that end in an error of a known class, their promises, calls of them -/
namespace DL
open PySem PySem.Spec L2
variable [LamT]
open PyProof.Rows (envOfC)
/-- what is known of an error class x of the program -/
structure ExF (K : PySem.W.Frag) (mg : Str → Option Value) (x : Str) : Prop where
  ex : ∃ C CE : Addr, mg x = some (.ref C) ∧ mg "CopyError" = some (.ref CE) ∧ PySem.W.excIn K C He.veBase "ValueError.__new__" = true ∧ PySem.W.keepIn K (.ref C) = true ∧
    PySem.W.subIn K (.ref C) (.type "BaseException") = some true ∧ PySem.W.typeIn K (.ref C) = some (.type "type") ∧ PySem.W.exmOne K (.ref C) (.ref CE) = some true
/-- an error: its class, its fields if its class has an __init__ of its own -/
structure Er where
  cls : Str
  dat : Option (List (Str × V))
instance : Coe Str Er := ⟨fun s => ⟨s, none⟩⟩
instance : Coe String Er := ⟨fun s => ⟨s, none⟩⟩
structure CtX where
  α : Type
  pre : α → List D → Prop
  cls : Str
structure CtY where
  α : Type
  pre : α → List D → Prop
  er : α → Er
def CtX.y (S : CtX) : CtY := ⟨S.α, S.pre, fun _ => ⟨S.cls, none⟩⟩
def ErW (K : PySem.W.Frag) (mg : Str → Option Value) (Z : Addr → Prop) (H : Hp) (F : List Addr) (er : Er) (Ec : XK) : Prop := ∀ C, mg er.cls = some (.ref C) → ∀ Z' H' F', Zt K Z' H' → Stp Z H F Z' H' F' →
  match er.dat with
  | none => Ec (.ref C) none H'
  | some fs => ∀ d, H' d = none → Ec (.ref C) (some d) (upd H' d (.xd fs))
def toSpY (K : PySem.W.Frag) (mg : Str → Option Value) (S : CtY) : Sp := fun vs H _ E => ∃ Z ds F, Reps K Z H ds vs F ∧ F.Nodup ∧ (∀ a ∈ F, ¬ Z a) ∧ Zt K Z H ∧ ∃ a : S.α, S.pre a ds ∧ ErW K mg Z H F (S.er a) E
abbrev toSpX (K : PySem.W.Frag) (mg : Str → Option Value) (S : CtX) : Sp := toSpY K mg S.y
section
variable (X : Cx)
/-- the error's wish, from here -/
def XW (Z : Addr → Prop) (H : Hp) (F : List Addr) (er : Er) (Ec : XK) : Prop := ErW X.K X.mg Z H F er Ec
def WXe (e : Expr) (E : EnvT) (cls : Er) : Prop := ∀ (Z : Addr → Prop) (H : Hp) (σ : Sl) (F : List Addr) (Ec : XK) (Q : VK), EnvS X.K Z H E σ F → Takes X (fun c d _ H' => Ec c d H') → XW X Z H F cls Ec → wpE X e σ H Q
def WXs (sts : List Stmt) (E : EnvT) (cls : Er) : Prop := ∀ (Z : Addr → Prop) (H : Hp) (σ : Sl) (F : List Addr) (Ec : XK) (D : Ends), EnvS X.K Z H E σ F → Takes X (fun c d _ H' => Ec c d H') → XW X Z H F cls Ec → wpSs X sts D σ H
def WX1 (st : Stmt) (E : EnvT) (cls : Er) : Prop := ∀ (Z : Addr → Prop) (H : Hp) (σ : Sl) (F : List Addr) (Ec : XK) (D : Ends), EnvS X.K Z H E σ F → Takes X (fun c d _ H' => Ec c d H') → XW X Z H F cls Ec → wpS X st D σ H
end
section
variable {X : Cx} {n : List Nat} {e c : Expr} {es : List Expr} {st : Stmt} {sts sa sb : List Stmt} {E : EnvT} {cls : Er} {pos p p2 p3 : Pos}
theorem XW.after {Z Z1 : Addr → Prop} {H H1 : Hp} {F F1 : List Addr} {Ec : XK} (w : XW X Z H F cls Ec) (s : Stp Z H F Z1 H1 F1) : XW X Z1 H1 F1 cls Ec := fun C hC Z2 H2 F2 z s2 => w C hC Z2 H2 F2 z (s.trans s2)
/-- a statement that runs, then a block that raises -/
theorem wx_ok (h : WS X n st E { nx := fun E1 => WXs X sts E1 cls, rt := fun _ _ => False }) : WXs X (st :: sts) E cls := by
  intro Z H σ F Ec D he tk hw
  refine wpSs_by (pss_cons ps_w pss_w) (h Z H σ F _ he ⟨fun E1 Z1 H1 σ1 F1 q f => ?_, fun _ _ _ _ _ _ _ _ q => q.elim, fun _ _ _ _ _ q => q.elim, fun _ _ _ _ _ q => q.elim⟩)
  exact q Z1 H1 σ1 F1 Ec D f.env tk (hw.after f.st)
/-- a statement that raises, then anything -/
theorem wx_st (h : WX1 X st E cls) : WXs X (st :: sts) E cls := fun Z H σ F Ec D he tk hw => wpSs_by (pss_cons ps_w pss_w) (h Z H σ F Ec _ he tk hw)
theorem wx_if (h : WT X c E fun t E1 => (t = true → WXs X sa E1 cls) ∧ (t = false → WXs X sb E1 cls)) : WX1 X (.If c sa sb pos) E cls := by
  intro Z H σ F Ec D he tk hw
  refine wpS_by (ps_if pt_w pss_w pss_w) (h Z H σ F _ he fun t E1 Z1 H1 F1 q f => ?_)
  cases t with
  | true => exact q.1 rfl Z1 H1 σ F1 Ec D f.env tk (hw.after f.st)
  | false => exact q.2 rfl Z1 H1 σ F1 Ec D f.env tk (hw.after f.st)
theorem wx_expr (h : WXe X e E cls) (hs : swapsWith e none pos.line X.env = pure false := by rfl) : WX1 X (.Expr e pos) E cls := fun Z H σ F Ec D he tk hw => wpS_by (ps_expr pe_w hs) (h Z H σ F Ec _ he tk hw)
/-- raise X('..') -/
theorem wx_raise {cls m : Str} {j : Nat} (f : ExF X.K X.mg cls) (hc : X.calm = true) (hg : Gl X cls) (hdb : (cls == ("__debug__" : Str)) = false := by decide) : WX1 X (.Raise (some (.Call (.Name cls p) [.Constant (.str m) j p2] [] p3)) none pos) E cls := by
  intro Z H σ F Ec D he tk hw
  obtain ⟨C, CE, gC, gE, e1, e2, e3, e4, e5⟩ := f.ex
  refine wpS_by (ps_raise hc tk (pmk_own PySem.F.excBase_ValueError e1 gC e2 (raises_own e3 e4) hg hdb)) ?_
  exact hw C gC Z H F he.zt Stp.refl
/-! ### calls of defs that raise -/
structure CalX (P : Program) (w : World) (K : PySem.W.Frag) (mg : Str → Option Value) (base : Heap) (k : Nat) (x : Str) (sp : Sp) : Prop where
  ex : ∃ (f : Addr) (fd : FuncData) (ps : List Str), FnOk P w K mg base (L2.CX P w) k f fd ps sp ∧ mg x = some (.ref f) ∧ PySem.W.keepIn K (.ref f) = true ∧ Binds K fd ps [] ∧ FdAt K f fd ps
theorem wy_call {S : CtY} {x : Str} {k j : Nat} (cal : CalX X.prog X.w X.K X.mg X.base k x (toSpY X.K X.mg S)) (hr : Room j X.A) (hk : k ≤ j) (hg : Gl X x)
    (h : WA X (e :: es) E fun os E1 => ∃ ds, valsOf os = some ds ∧ ∃ a, S.pre a ds ∧ S.er a = cls)
    (hdb : (x == ("__debug__" : Str)) = false := by decide) (he : starEach (e :: es) X.env = (false, eval e X.env) :: starEach es X.env := by rfl) (hpl : (backTo pos (starEach es X.env)).any (·.1) = false := by rfl) :
    WXe X (.Call (.Name x p) (e :: es) [] pos) E cls := by
  intro Z H σ F Ec Q henv tk hw
  obtain ⟨f, fd, ps, G, hm, kp, b, _⟩ := cal.ex
  refine wpE_by (pe_call (E := Ec) G (hr.mono hk) hg hm kp b .nil (passes_call tk fun _ _ _ _ q => q) pa_w hdb he hpl) ?_
  refine h Z H σ F _ henv fun os E1 Z1 H1 F1 G1 vs ⟨ds, eo, a, pa, ea⟩ f1 rs => ?_
  have eo' := valsOf_map eo
  subst eo'
  rw [List.append_nil]
  refine ⟨Z1, ds, G1, rs.vals, (List.nodup_append.mp f1.nd).1, f1.nz, f1.env.zt, a, pa, fun C hC Z2 H2 F2 z s => ?_⟩
  rw [ea] at hC ⊢
  refine hw C hC Z2 H2 (F2 ++ F1) z (f1.st.trans (s.more (fun y hy => List.mem_append_left _ hy) fun y hy => ?_))
  rcases List.mem_append.mp hy with q | q
  · exact .inl q
  · exact .inr (List.mem_append_right _ q)
theorem wx_call {S : CtX} {x : Str} {k j : Nat} (cal : CalX X.prog X.w X.K X.mg X.base k x (toSpX X.K X.mg S)) (hr : Room j X.A) (hk : k ≤ j) (hg : Gl X x)
    (h : WA X (e :: es) E fun os E1 => ∃ ds, valsOf os = some ds ∧ ∃ a, S.pre a ds)
    (hdb : (x == ("__debug__" : Str)) = false := by decide) (he : starEach (e :: es) X.env = (false, eval e X.env) :: starEach es X.env := by rfl) (hpl : (backTo pos (starEach es X.env)).any (·.1) = false := by rfl) :
    WXe X (.Call (.Name x p) (e :: es) [] pos) E (S.cls : Er) := wy_call cal hr hk hg (WA.mono h fun os E1 ⟨ds, eo, a, pa⟩ => ⟨ds, eo, a, pa, rfl⟩) hdb he hpl
end
section
variable {P : Program} {w : World} {K : PySem.W.Frag} {mg : Str → Option Value} {base : Heap}
theorem caly_of {x : Str} {st : Stmt} {N ps : List Str} {k : Nat} {S : CtY} (hs : Has K mg x st ps) (sc : FnScope N ps (defScope st)) (hlen : ∀ a ds, S.pre a ds → ds.length = ps.length)
    (body : ∀ (f : Addr) (cdv : Value) (A : Around) (outer : List Env) (s : Shared) (H : Hp) (E : XK), Room k (A.deeper (envOfC x (defScope st) s.heap.objs.size f cdv)) → ∀ (a : S.α) (ds : List D), S.pre a ds →
      (let X : Cx := cxOf (L2.CX P w) P w K mg base N x (defScope st) f cdv A outer s H E
      WXs X (defBody st) (ds.map some ++ List.replicate (N.length - ps.length) none) (S.er a))) (hps : ps = (defArgs st).args.map (·.arg) := by rfl) : CalX P w K mg base (k + 1) x (toSpY K mg S) := by
  obtain ⟨f, fd, F, hm, b⟩ := hs.ex
  have ln : ∀ vs H Q E, toSpY K mg S vs H Q E → vs.length = ps.length := fun vs H Q E ⟨Z, ds, F, r, _, _, _, a, pa, _⟩ => by rw [← r.len]; exact hlen a ds pa
  refine ⟨f, fd, ps, F.ok (CX := L2.CX P w) sc ln (fun cdv A outer s H vs Q E hr hsp => ?_), hm, F.kp, b, .of F hps⟩
  have hl := ln _ _ _ _ hsp
  obtain ⟨Z, ds, F0, r, nd, nz, zt, a, pa, hq⟩ := hsp
  refine ⟨_, pss_w, ?_⟩
  have he : EnvS K Z H (ds.map some ++ List.replicate (N.length - ps.length) none) (start N vs) F0 := ⟨by
    have q := EnvR.start r (N.length - ps.length)
    unfold L2.start
    rw [hl]
    exact q, nd, nz, zt⟩
  exact body f cdv A outer s H E hr a ds pa Z H (start N vs) F0 E _ he (takes_of rfl rfl rfl rfl) hq
theorem calx_of {x : Str} {st : Stmt} {N ps : List Str} {k : Nat} {S : CtX} (hs : Has K mg x st ps) (sc : FnScope N ps (defScope st)) (hlen : ∀ a ds, S.pre a ds → ds.length = ps.length)
    (body : ∀ (f : Addr) (cdv : Value) (A : Around) (outer : List Env) (s : Shared) (H : Hp) (E : XK), Room k (A.deeper (envOfC x (defScope st) s.heap.objs.size f cdv)) → ∀ (a : S.α) (ds : List D), S.pre a ds →
      (let X : Cx := cxOf (L2.CX P w) P w K mg base N x (defScope st) f cdv A outer s H E
      WXs X (defBody st) (ds.map some ++ List.replicate (N.length - ps.length) none) (S.cls : Er))) (hps : ps = (defArgs st).args.map (·.arg) := by rfl) : CalX P w K mg base (k + 1) x (toSpX K mg S) := caly_of hs sc hlen body hps
end
end DL

/-! _law_caught(lambda: ..), the lambda's body raises -/
namespace DL
open PySem PySem.Spec L2 LamX
variable [LamT]
open PyProof.Rows (envOfC)
def TTc (K : PySem.W.Frag) (CE : Addr) : (XK → Hp → VK → Prop) → Hp → VK → Prop := fun tl H Q =>
  tl (fun cls d H' => ∃ b, PySem.W.exmOne K cls (.ref CE) = some b ∧ (b = true → ∀ a, H' a = none → Q (.ref a) (upd H' a (exT a cls d))) ∧ (b = false → False)) H (fun _ H' => ∃ v : V, (some (some V.non) : Option (Option V)) = some (some v) ∧ Q v H')
section
variable {X : Cx}
theorem caught_gives {x q : Str} {sg : Scope} {g CE : Addr} {cdg : Value} {j : Nat} {p1 p2 p3 p4 p5 p6 p7 p8 p9 q1 q2 q3 q4 q5 : Pos}
    (s0 : sg.names.lookup ("work" : Str) = some NameKind.local) (s1 : sg.names.lookup ("caught" : Str) = some NameKind.local) (s2 : sg.names.lookup ("error" : Str) = some NameKind.local) (s3 : sg.names.lookup ("CopyError" : Str) = some NameKind.globalImplicit) (hm : X.mg "CopyError" = some (.ref CE)) :
    GivesTo X ["work", "caught", "error"] x sg g cdg
      [.Assign [.Name "caught" p1] (.Constant .none j p2) p3,
       .Try [.Expr (.Call (.Name "work" p4) [] [] p5) p6] [.ExceptHandler (some (.Name "CopyError" p7)) (some "error") [.Assign [.Name "caught" p8] (.Name "error" p9) q1] q2] [] [] q3,
       .Return (some (.Name "caught" q4)) q5] "work" q (TTc X.K CE) := by
  intro f c' s H Q tl act hc h
  have nd : (["work", "caught", "error"] : List Str).Nodup := by decide
  refine ⟨_, pss_cons (ps_set (i := 1) nd rfl (.inl s1) pe_non (by rfl) (.inr s1)) (pss_cons (ps_try_trk (i := 2) (c := .ref CE) (Wo := fun _ _ _ _ => False)
      (tb := fun W D σ H => ∃ Ech : XK, (∀ cls d σ' H', Ech cls d H' → W cls d σ' H') ∧ σ[0]? = some (some (.ref f)) ∧ H c' = some (CodeO c' q) ∧ tl Ech H (fun _ H' => D.nx σ H'))
      (ts := fun a cls d D σ H => ∃ v, σ[2]? = some (some v) ∧ D.nx (σ.set 1 (some v)) H)
      rfl rfl rfl nd rfl s2 ⟨s3, by decide,   .inl hm⟩ L2.takes0 (fun W pn xe tk _ => ?_) (fun a oe cls d pn _ _ => ?_)) (pss_one (ps_ret (pe_var (i := 1) rfl (.inl s1) (by decide) (by decide))))), ?_⟩
  · refine ⟨fun pins s' σ H' D I h' => ?_⟩
    obtain ⟨Ech, hW, h1, h2, h3⟩ := h'
    have hp := act W pn xe Ech p4 p5 tk hW
    exact (pss_one (ps_expr hp (by rfl))).run pins s' σ H' D I ⟨h1, h2, h3⟩
  · exact pss_one (ps_set (i := 1) nd rfl (.inl s1) (pe_var (i := 2) rfl (.inl s2) (by decide) (by decide)) (by rfl) (.inr s1))
  · refine ⟨fun cls d H' => ∃ b, PySem.W.exmOne X.K cls (.ref CE) = some b ∧ (b = true → ∀ a, H' a = none → Q (.ref a) (upd H' a (exT a cls d))) ∧ (b = false → False), fun cls d σ' H' hx => ?_, rfl, hc, h⟩
    intro hl
    have hl : σ'.length = 3 := hl
    obtain ⟨b, e1, e2, e3⟩ := hx
    refine ⟨b, e1, fun hb a ha => ⟨.ref a, by rw [List.getElem?_set_self (by omega)], .ref a, ?_, e2 hb a ha⟩, e3⟩
    rw [List.getElem?_set_ne (by decide), List.getElem?_set_self (by rw [List.length_set]; omega)]
end
end DL

/-! _law_caught(lambda: ..) gives the exception -/
namespace DL
open PySem PySem.Spec L2 LamX
variable [LamT]
open PyProof.Rows (envOfC)
/-- the code object of the running def and its table -/
structure LamAt (base : Heap) (mg : Str → Option Value) (env : Env) : Prop where
  ex : ∃ c P : Addr, env.code = .ref c ∧ TabB base mg c P ∧ (P, env.qual ++ "<lambda>") ∈ LamT.tk ∧ ∀ p ∈ LamT.tk, p.1 = P → p.2 = env.qual ++ "<lambda>"
/-- the slots that own nothing, of E; the others hidden -/
inductive Msk : EnvT → EnvT → Prop
  | nil : Msk [] []
  | no {o : Option D} {E E0 : EnvT} : Msk E E0 → Msk (o :: E) (none :: E0)
  | so {d : D} {E E0 : EnvT} : Imm d → Msk E E0 → Msk (some d :: E) (some d :: E0)
theorem EnvR.msk {K : PySem.W.Frag} {Z : Addr → Prop} {H : Hp} : ∀ {E E0 : EnvT} {σ : Sl} {F : List Addr}, Msk E E0 → EnvR K Z H E σ F → EnvR K Z H E0 σ []
  | _, _, _, _, .nil, .nil => .nil
  | _, _, _, _, .no m, .no r => .no (EnvR.msk m r)
  | _, _, _, _, .no m, .so _ r => .no (EnvR.msk m r)
  | _, _, _, _, .so i m, .so r rs => by
    have e := r.imm i
    subst e
    exact .so (G := []) (F := []) r (EnvR.msk m rs)
section
variable {X : Cx} {E E0 : EnvT} {k : Opd → EnvT → Prop}
theorem wo_caught {st : Stmt} {cls : Str} {CE : Addr} {Ng : List Str} {kb j : Nat} {params : Arguments} {body : Expr} {scope : Scope} {p lpos pos : Pos}
    (has : Has X.K X.mg "_law_caught" st ["work"]) (hCE : X.mg "CopyError" = some (.ref CE)) (Sg : FnScope ["work", "caught", "error"] ["work"] (defScope st))
    (hG : ∀ (g : Addr) (cdg : Value), GivesTo X ["work", "caught", "error"] "_law_caught" (defScope st) g cdg (defBody st) "work" (X.env.qual ++ "<lambda>") (TTc X.K CE))
    (hva : Vis (defScope st) "work") (lam : LamAt X.base X.mg X.env) (hr : Room j X.A) (hj : kb + 2 ≤ j) (hg : Gl X "_law_caught") (L : lamSB X.env.scope scope = true)
    (fx : ExF X.K X.mg cls) (m : Msk E E0) (hdef : defaultsOf params X.env = ([], []))
    (hbind : ∀ (q : Str) (cl : List (Str × Addr)) (pm cv ctv : Value), bindArgs (PySem.W.kla_fn "<lambda>" q params body scope cl pm cv ctv) ⟨[], []⟩ = pure [])
    (hbody : ∀ (A : Around) (outer : List Env) (s : Shared) (H : Hp) (Ec : XK) (f c' : Addr), Room kb (A.deeper (lamEnv X scope s.heap.objs.size f c')) → (let Y : Cx := lamCx X A outer s H Ec scope f c'; WXe Y body E0 cls))
    (h : ∀ C, X.mg cls = some (.ref C) → k (.val (.exc C)) E) : WO X (.Call (.Name "_law_caught" p) [.Lambda params body scope lpos] [] pos) E k := by
  intro Z H σ F Q he hk
  obtain ⟨g, fd, FD, hm, hb⟩ := has.ex
  obtain ⟨oc, od, dV, kV, doc, pm, an, cdv, ct, osl, rfl, lk, hcd, _, _⟩ := FD.ex
  obtain ⟨c, P, e1, tb, e2, e3⟩ := lam.ex
  obtain ⟨C, CE', gC, gE, x1, x2, x3, x4, x5⟩ := fx.ex
  rw [hCE] at gE
  cases gE
  refine wpE_by (pe_lamcall (T := LamT.tk) (k := kb) (P := P) (t := fun Ec σ H Q => ∃ Z F0, EnvS X.K Z H E0 σ F0 ∧ XW X Z H F0 cls Ec) hg hm FD.kp lk hcd hb Sg rfl hva (hG g cdv) tb e1 e2 e3 (hr.mono hj) (lamS_by L) hdef hbind
    (fun A outer s H Ec f c' hr' => ⟨fun pins s' σ H' Q I ⟨Z, F0, he, hw⟩ => hbody A outer s H Ec f c' hr' Z H' σ F0 Ec Q he (takes_of rfl rfl rfl rfl) hw pins s' I⟩)) ?_
  refine ⟨he.zt.tb, fun H1 eN T1 => ?_⟩
  have s1 : Stp Z H F Z H1 F := ⟨fun _ z => z, fun _ z => .inl z, fun a o e _ n => eN a o e n, fun _ => T1, fun a o e n => ⟨o, eN a o e n, n⟩, fun _ q => .inl q,
    fun a xs r => r.elim (fun r => .inl (eN _ _ r ntb_tup)) fun ⟨o, r⟩ => .inr ⟨o, eN _ _ r (fun _ z => nomatch z)⟩, fun a xs _ n r => eN _ _ r n, fun a o xs r => eN _ _ r (fun _ z => nomatch z)⟩
  have s0 : Stp Z H [] Z H1 [] := ⟨fun _ z => z, fun _ z => .inl z, fun a o e _ n => eN a o e n, fun _ => T1, fun a o e n => ⟨o, eN a o e n, n⟩, fun _ q => .inl q, s1.tu, s1.fl, s1.ft⟩
  have r1 := he.r.step s0 (fun _ _ q => nomatch q)
  refine ⟨Z, [], ⟨r1.msk m, List.nodup_nil, (fun _ q => nomatch q), he.zt.stp s1⟩, fun C' hC Z' H' F' z' s' => ?_⟩
  rw [gC] at hC
  cases hC
  refine ⟨true, x5, fun _ a ha => ?_, fun q => nomatch q⟩
  have s2 : Stp Z H [] Z' H' [] := (s0.trans s').sub fun _ q => nomatch q
  have r2 := he.r.step s2 (fun _ _ q => nomatch q)
  have g : Grow H' (upd H' a (exT a (.ref C) none)) [a] := Grow.new ha
  have nz2 : ∀ x ∈ F, ¬ Z' x := fun x hx z => by
    rcases s2.z2 x z with q | q | q
    · exact he.nz x hx q
    · exact nomatch q
    · obtain ⟨o, e, n⟩ := he.r.mem x hx
      exact q o e n
  have offa : a ∉ F := fun hx => by
    obtain ⟨o, e, n⟩ := r2.mem a hx
    rw [ha] at e
    cases e
  refine hk _ E Z' _ F [a] _ (h C gC) ⟨⟨r2.kp g.kp fun a _ o _ e => g.gr a o e, he.nd, nz2, z'.gr g⟩, List.nodup_cons.mpr ⟨offa, he.nd⟩, fun x hx z => ?_, ?_⟩ (.exc upd_same)
  · rw [List.mem_singleton.mp hx] at z
    obtain ⟨o, e, _⟩ := z'.th a z
    rw [ha] at e
    cases e
  · have s3 : Stp Z H F Z' H' F := s2.more (fun _ q => nomatch q) fun x hx => .inr hx
    exact s3.trans (g.st (F := F))
end
end DL

/-! calls with keywords, their arguments own nothing -/
namespace DL
open PySem PySem.Spec L2
variable [LamT]
section
variable {X : Cx}
/-- values one behind another -/
def tEs (X : Cx) : List Keyword → TA
  | [] => tNil
  | q :: r => tCons (wpE X q.value) (tEs X r)
theorem pk_w : ∀ kws : List Keyword, PK X kws (tEs X kws)
  | [] => pk_nil
  | ⟨_, _, _⟩ :: r => pk_cons pe_w (pk_w r)
def WKs (kws : List Keyword) (E : EnvT) (k : List Opd → EnvT → Prop) : Prop := ∀ (Z : Addr → Prop) (H : Hp) (σ : Sl) (F : List Addr) (Q : List V → Hp → Prop), EnvS X.K Z H E σ F →
  (∀ (os : List Opd) (E' : EnvT) (Z' : Addr → Prop) (H' : Hp) (F' G : List Addr) (vs : List V), k os E' → Fin X.K Z H σ F E' Z' H' F' G → OpdRs X.K Z' H' σ os vs G → Q vs H') → tEs X kws σ H Q
theorem wk_nil {E : EnvT} {k : List Opd → EnvT → Prop} (h : k [] E) : WKs (X := X) [] E k := fun Z H σ F Q he hk => hk [] E Z H F [] [] h (Fin.refl he) .nil
theorem wk_cons {E : EnvT} {k : List Opd → EnvT → Prop} {nm : Option Str} {e : Expr} {kp : Pos} {kws : List Keyword} (h : WO X e E fun o E1 => WKs (X := X) kws E1 fun os E2 => k (o :: os) E2) : WKs (X := X) (⟨nm, e, kp⟩ :: kws) E k := by
  intro Z H σ F Q he hk
  refine h Z H σ F _ he fun o E1 Z1 H1 F1 G1 v k1 f1 r1 => ?_
  refine k1 Z1 H1 σ F1 _ f1.env fun os E2 Z2 H2 F2 G2 vs k2 f2 r2 => ?_
  exact hk (o :: os) E2 Z2 H2 F2 (G1 ++ G2) (v :: vs) k2 (f1.join r1.mem f2) (.cons (r1.step f2.st (f1.off r1.mem f2)) r2)
end
/-! ### the parameters' order -/
def gi {α : Type} (pm : List Nat) (l : List α) : List α := pm.filterMap fun i => l[i]?
theorem vals_get : ∀ {vs : List V} {us : List Value}, Vals vs us → ∀ i : Nat, (vs[i]? = none ∧ us[i]? = none) ∨ ∃ v u, vs[i]? = some v ∧ us[i]? = some u ∧ RelV v u
  | _, _, .nil, i => .inl ⟨by simp, by simp⟩
  | _, _, .cons r rs, 0 => .inr ⟨_, _, rfl, rfl, r⟩
  | _, _, .cons r rs, i + 1 => by simpa using vals_get rs i
theorem vals_gi {vs : List V} {us : List Value} (r : Vals vs us) : ∀ pm : List Nat, Vals (gi pm vs) (gi pm us)
  | [] => .nil
  | i :: pm => by
    unfold gi
    rw [List.filterMap_cons, List.filterMap_cons]
    rcases vals_get r i with ⟨h1, h2⟩ | ⟨v, u, h1, h2, h3⟩
    · rw [h1, h2]; exact vals_gi r pm
    · rw [h1, h2]; exact .cons h3 (vals_gi r pm)
theorem reps_get {K : PySem.W.Frag} {Z : Addr → Prop} {H : Hp} : ∀ {ds : List D} {vs : List V} {G : List Addr}, Reps K Z H ds vs G → G = [] → ∀ i : Nat, (ds[i]? = none ∧ vs[i]? = none) ∨ ∃ d v, ds[i]? = some d ∧ vs[i]? = some v ∧ Rep K Z H d v []
  | _, _, _, .nil, _, i => .inl ⟨by simp, by simp⟩
  | _, _, _, .cons (F := F) (G := G) r rs, e, 0 => by
    have e1 := (List.append_eq_nil_iff.mp e).1
    subst e1
    exact .inr ⟨_, _, rfl, rfl, r⟩
  | _, _, _, .cons r rs, e, i + 1 => by simpa using reps_get rs (List.append_eq_nil_iff.mp e).2 i
theorem reps_gi {K : PySem.W.Frag} {Z : Addr → Prop} {H : Hp} {ds : List D} {vs : List V} (r : Reps K Z H ds vs []) : ∀ pm : List Nat, Reps K Z H (gi pm ds) (gi pm vs) []
  | [] => .nil
  | i :: pm => by
    unfold gi
    rw [List.filterMap_cons, List.filterMap_cons]
    rcases reps_get r rfl i with ⟨h1, h2⟩ | ⟨v, u, h1, h2, h3⟩
    · rw [h1, h2]; exact reps_gi r pm
    · rw [h1, h2]; exact .cons (F := []) (G := []) h3 (reps_gi r pm)
theorem vals_app : ∀ {vs zs : List V} {us ws : List Value}, Vals vs us → Vals zs ws → Vals (vs ++ zs) (us ++ ws)
  | _, _, _, _, .nil, r => r
  | _, _, _, _, .cons r rs, q => .cons r (vals_app rs q)
/-- n positional values and keywords ks: the parameter i gets the value pm[i] -/
structure KwB (K : PySem.W.Frag) (mg : Str → Option Value) (x : Str) (n : Nat) (ks : List Str) (pm : List Nat) : Prop where
  ex : ∃ (f : Addr) (fd : FuncData) (ps : List Str), mg x = some (.ref f) ∧ FdAt K f fd ps ∧ KBn K fd ps n ks (fun us ws => gi pm (us ++ ws)) (fun vs zs => gi pm (vs ++ zs))
theorem kwb_of {K : PySem.W.Frag} {mg : Str → Option Value} {x : Str} {st : Stmt} {ps ks : List Str} {n : Nat} {pm : List Nat} (h : Has K mg x st ps)
    (hb : ∀ (kV doc pmv : Value) (an : Option Addr) (cdv ct : Value) (us ws : List Value), us.length = n → ws.length = ks.length → bindArgs (PySem.W.fnOf x x (defArgs st) (defBody st) (defScope st) .none kV doc pmv an cdv ct) ⟨us, ks.zip ws⟩ = pure (ps.zip (gi pm (us ++ ws))))
    (hps : ps = (defArgs st).args.map (·.arg) := by rfl) : KwB K mg x n ks pm := by
  obtain ⟨f, fd, F, hm, b⟩ := h.ex
  have fa := FdAt.of F hps
  obtain ⟨oc, od, dV, kV, doc, pmv, an, cdv, ct, osl, rfl, lk, hcd, hD, hK⟩ := F.ex
  rcases hD with ⟨_, rfl⟩ | ⟨e, _⟩
  · exact ⟨f, _, ps, hm, fa, fun s us ws _ h1 h2 => .of_eq (hb kV doc pmv an cdv ct us ws h1 h2), fun r rz => vals_gi (vals_app r rz) pm⟩
  · exact absurd rfl e
section
variable {X : Cx} {E : EnvT} {kk : Opd → EnvT → Prop} {e : Expr} {es : List Expr} {kws : List Keyword} {S : Ct} {x : Str} {k j n : Nat} {p pos : Pos} {ks : List Str} {pm : List Nat}
theorem pe_callN0 {CX : CXT} {f : Addr} {fd : FuncData} {ps : List Str} {sp : Sp} {Ee : XK} {tk : TA} {g : List Value → List Value → List Value} {gV : List V → List V → List V} (F : FnOk X.prog X.w X.K X.mg X.base CX k f fd ps sp) (hr : Room k X.A) (hg : Gl X x) (hm : X.mg x = some (.ref f)) (hk : PySem.W.keepIn X.K (.ref f) = true) (hb : KBn X.K fd ps 0 ks g gV) (hx : Passes CX X Ee)
    (hkw : PK X kws tk) (hall : (backToKw pos (keywordEach kws X.env)).all (·.1.isSome) = true) (hks : (backToKw pos (keywordEach kws X.env)).filterMap (·.1) = ks)
    (hdb : (x == ("__debug__" : Str)) = false) (hpl : ((backTo pos (starEach [] X.env)).any (·.1) || (backToKw pos (keywordEach kws X.env)).any (·.1.isNone)) = false) :
    PE X (.Call (.Name x p) [] kws pos) (tCallN 0 ks.length sp gV Ee tNil tk) := by
  refine ⟨fun pins s σ H Q I h => ?_⟩
  refine wpAny_Call_Name_kw (ld_glob I hg hm ?_ hdb)
  refine PySem.W.callWith_KW0 (h₀ := X.base) I.ok.mod.kin hk hall ?_ hpl
  refine thn (hkw.run pos pins s σ H _ I h) fun ws s2 ⟨zs, H2, I2, rz, l1, l2, q2⟩ => ⟨I2.kIn, ?_⟩
  rw [hks]
  exact run_fnN F hr hb hx I2 .nil rz l1 l2 q2
/-- behind the arguments: the promise of the callee -/
theorem toSp_nil {Z Z1 : Addr → Prop} {H H1 : Hp} {σ : Sl} {F F1 G : List Addr} {E1 : EnvT} {ds : List D} {vs : List V} {Q : VK} {Ee : XK} (f1 : Fin X.K Z H σ F E1 Z1 H1 F1 G) (r : Reps X.K Z1 H1 ds vs [])
    (hk : ∀ (o : Opd) (E' : EnvT) (Z' : Addr → Prop) (H' : Hp) (F' G : List Addr) (v : V), kk o E' → Fin X.K Z H σ F E' Z' H' F' G → OpdR X.K Z' H' σ o v G → Q v H') (a : S.α) (pa : S.pre a ds) (hq : ∀ d, S.post a d [] → kk (.val d) E1) : toSp X.K 0 S vs H1 Q Ee := by
  have f2 := f1.nil
  refine ⟨Z1, ds, [], r, List.nodup_nil, (fun _ q => nomatch q), f1.env.zt, a, pa, fun d ds' po v Z' H' G2 F2 r2 rv nd nz zt st => ?_⟩
  rw [List.take_zero] at r2
  cases r2
  have st0 : Stp Z1 H1 [] Z' H' G2 := st.sub fun x hx => List.mem_append_left _ hx
  have n2 : G2.Nodup := (List.nodup_append.mp nd).1
  have ap := st0.apart (G := F1) (F1 := []) (F2 := G2) f1.env.r.mem (by simpa using f1.env.nd) n2
  have nzF := st0.nz f1.env.r.mem ap.2 f1.env.nz
  refine hk (.val d) E1 Z' H' F1 G2 v (hq d po) ⟨⟨f1.env.r.step st0 ap.2, f1.env.nd, nzF, zt⟩, ?_, fun x hx => nz x (List.mem_append_left _ hx), ?_⟩ rv
  · refine List.nodup_append.mpr ⟨n2, f1.env.nd, fun x hx y hy e => ?_⟩
    subst e
    exact (List.nodup_append.mp ap.1).2.2 x hy x hx rfl
  · have st1 : Stp Z1 H1 F1 Z' H' (G2 ++ F1) := st0.more (fun _ q => nomatch q) fun x hx => (List.mem_append.mp hx)
    have s0 := f2.st
    simp only [List.nil_append] at s0
    exact s0.trans st1
/-- f(k = v, ..) -/
theorem wo_k0 (c : Cal X.prog X.w X.K X.mg X.base k x (toSp X.K 0 S)) (kb : KwB X.K X.mg x 0 ks pm) (hr : Room j X.A) (hk : k ≤ j) (hg : Gl X x)
    (h : WKs (X := X) kws E fun os E1 => ∃ ds, valsOf os = some ds ∧ Imms ds ∧ ds.length = ks.length ∧ ∃ a, S.pre a (gi pm ds) ∧ ∀ d, S.post a d [] → kk (.val d) E1)
    (hall : (backToKw pos (keywordEach kws X.env)).all (·.1.isSome) = true := by rfl) (hks : (backToKw pos (keywordEach kws X.env)).filterMap (·.1) = ks := by rfl)
    (hdb : (x == ("__debug__" : Str)) = false := by decide) (hpl : ((backTo pos (starEach [] X.env)).any (·.1) || (backToKw pos (keywordEach kws X.env)).any (·.1.isNone)) = false := by rfl) :
    WO X (.Call (.Name x p) [] kws pos) E kk := by
  obtain ⟨f, fd, ps, G, hm, kp, b, fa⟩ := c.ex
  obtain ⟨f', fd', ps', hm', fa', kb'⟩ := kb.ex
  rw [hm] at hm'
  cases hm'
  obtain ⟨⟨oc, od, osl, lk⟩, e2⟩ := fa
  obtain ⟨⟨oc', od', osl', lk'⟩, e2'⟩ := fa'
  rw [lk] at lk'
  cases lk'
  rw [← e2] at e2'
  subst e2'
  intro Z H σ F Q he hk'
  refine wpE_by (pe_callN0 G (hr.mono hk) hg hm kp kb' pass0 (pk_w kws) hall hks hdb hpl) ?_
  refine h Z H σ F _ he fun os E1 Z1 H1 F1 G1 vs ⟨ds, eo, im, hl, a, pa, hq⟩ f1 rs => ?_
  have eo' := valsOf_map eo
  subst eo'
  have r := (rs.vals).nils im
  exact ⟨rfl, by rw [← r.len]; exact hl, toSp_nil f1 (reps_gi r pm) hk' a pa hq⟩
end
end DL

/-! isinstance(e, C), e an exception that was caught -/
namespace DL
open PySem PySem.Spec L2
variable [LamT]
def rIsX (K : PySem.W.Frag) : List V → Hp → VK → Prop := fun xs H Q => ∃ (a C D : Addr) (b : Bool), xs = [.ref a, .ref D] ∧ H a = some (exT a (.ref C) none) ∧ ExcC K C ∧ PySem.W.kitOne K (.ref C) (.ref D) = some b ∧ Q (.bl b) H
section
variable {X : Cx}
theorem call_isX : CallR X (.builtin "isinstance") (rIsX X.K) := by
  intro pins s σ H xs us Q I r h
  obtain ⟨a, C, D, b, rfl, hH, c, e, q⟩ := h
  cases r with
  | cons rx rr =>
    cases rr with
    | cons rt rr =>
      cases rr
      cases rx
      cases rt
      obtain ⟨⟨ob, hg, h1, h2, vs, h3⟩, _⟩ := (show ObjOk X.prog X.w H s.heap a (exT a (.ref C) none) from I.hok a _ hH)
      have J : PySem.W.InstAt s.heap a ob C none := by
        obtain ⟨oc, od, oda, osl⟩ := ob
        dsimp only at h1 h2 h3
        subst h1 h2 h3
        exact ⟨hg, rfl, rfl, trivial⟩
      exact PySem.W.kia_one (PySem.W.handS_kitx_exc c.hg c.hk c.hs c.hd c.ha c.hn c.ht c.hm) I.kIn J e (fun z => nomatch z) fun tk => ⟨.bl b, H, I.kept (t' := tk) fun _ _ z => z, rfl, q⟩
end
section
variable {X : Cx} {a b : Expr} {E : EnvT} {k : Opd → EnvT → Prop} {pos p : Pos}
theorem wo_isX (hg : Gl X "isinstance") (hm : X.mg "isinstance" = none) (h : WO X a E fun o1 E1 => WO X b E1 fun o2 E2 => ∃ (C D : Addr) (r : Bool), o1.get E2 = some (.exc C) ∧ o2 = .val (.op (.ref D)) ∧ ExcC X.K C ∧ PySem.W.kitOne X.K (.ref C) (.ref D) = some r ∧ k (.val (.bl r)) E2)
    (hs : starEach [a, b] X.env = (false, eval a X.env) :: starEach [b] X.env := by rfl) (hs2 : starEach [b] X.env = (false, eval b X.env) :: starEach [] X.env := by rfl) : WO X (.Call (.Name "isinstance" p) [a, b] [] pos) E k :=
  wo_b2 (pe_callB call_isX hg hm (by decide +kernel) pa_w (he := hs) (hpl := by rw [hs2]; rfl)) (WO.mono h fun o1 E1 q => WO.mono q fun o2 E2 ⟨C, D, r, g1, g2, c, hb, kk⟩ => by
    subst g2
    exact ⟨.exc C, .op (.ref D), g1, rfl, _, fun Z H v1 v2 G1 G2 r1 r2 => GivesP.one fun Q q => by
      cases r2
      cases r1 with
      | exc e => exact ⟨_, C, D, r, rfl, e, c, hb, q _ H [] (.bl _) Grow.refl⟩, fun d e => by rw [e]; exact kk⟩) hs hs2
end
end DL

/-! heaps of records in plain Lean, as trees -/
namespace DL
open PySem PySem.Spec L2
variable [LamT]
inductive HV where
  | non | num (i : Int) | ptr (n : Nat)
  deriving DecidableEq
def toS : Str := "to"
def hvD : HV → D
  | .non => .non
  | .num i => .int i
  | .ptr n => .tup [.str toS, .int n]
def HV.isN : HV → Bool
  | .num _ => true
  | _ => false
def HV.isP : HV → Bool
  | .ptr _ => true
  | _ => false
abbrev Rec := List HV
abbrev Hea := List Rec
def recD (r : Rec) : D := .tup (r.map hvD)
def heaD (h : Hea) : D := .tup (h.map recD)
theorem imm_hv : ∀ v, Imm (hvD v)
  | .non => trivial
  | .num _ => trivial
  | .ptr _ => ⟨trivial, trivial, trivial⟩
theorem imms_hv {r : Rec} : Imms (r.map hvD) := imms_map fun v _ => imm_hv v
theorem imm_rec {r : Rec} : Imm (recD r) := imms_hv
theorem imms_rec {h : Hea} : Imms (h.map recD) := imms_map fun _ _ => imm_rec
theorem imm_hea {h : Hea} : Imm (heaD h) := imms_rec
def HV.ok (m : Nat) : HV → Prop
  | .non => True
  | .num i => -1000000000000000000 < i ∧ i < 1000000000000000000
  | .ptr n => n < m
structure WfH (w : Nat) (h : Hea) : Prop where
  w1 : 1 ≤ w
  w6 : w ≤ 6
  pos : 0 < h.length
  few : h.length ≤ 100000
  len : ∀ r ∈ h, r.length = w
  ok : ∀ r ∈ h, ∀ v ∈ r, v.ok h.length
theorem HV.ok.small {m : Nat} {v : HV} (h : v.ok m) (hm : m ≤ 100000) : v.ok 1000000000000000000 := by
  cases v with
  | non => exact h
  | num i => exact h
  | ptr n => have h : n < m := h; show n < 1000000000000000000; omega
theorem hv_at {r : Rec} {j : Nat} (h : j < r.length) : (r.map hvD).getD j .non = hvD r[j] := by
  rw [List.getD_eq_getElem?_getD, List.getElem?_map, List.getElem?_eq_getElem h]; rfl
theorem rec_at {h : Hea} {j : Nat} (l : j < h.length) : (h.map recD).getD j .non = recD h[j] := by
  rw [List.getD_eq_getElem?_getD, List.getElem?_map, List.getElem?_eq_getElem l]; rfl
end DL

/-! x[e] += e2, a list of numbers in a slot -/
namespace DL
open PySem PySem.Spec L2 PyProof.Rows
variable [LamT]
section
variable {X : Cx} {n : List Nat} {e e2 : Expr} {E : EnvT} {pos p tpos : Pos} {i : Nat} {x : Str} {ks : KS}
def rGetL (K : PySem.W.Frag) : V → V → Hp → VK → Prop := fun o i H Q => ∃ (p : Addr) (xs : List V) (j : Nat) (z : V), o = .ref p ∧ i = .int (j : Int) ∧ SqL K H p xs ∧ xs[j]? = some z ∧ Q z H
theorem get_list : PGet X (rGetL X.K) := by
  intro pins s σ H x y v u Q I rx ry h
  obtain ⟨p, xs, j, z, rfl, rfl, hq, he, q⟩ := h
  cases rx
  obtain ⟨t, rfl⟩ := ry
  obtain ⟨its, r, pl, hz⟩ := I.list hq
  obtain ⟨w, ew, rw'⟩ := r.get he
  have hl := r.length
  have hn := line63
  have hj : j < xs.length := (List.getElem?_eq_some_iff.mp he).1
  have fin : EP X pins σ Q w s := ⟨z, H, I, rw', q⟩
  exact wpAny_getItem_list pl.isList (by omega) (by omega) (by rw [Int.toNat_natCast]; simpa using ew) fin
theorem ws_augSub (hN : X.N[i]? = some x) (hE : ∃ ds0, E[i]? = some (some (.lst ds0)))
    (h : WO X e E fun o E1 => ∃ (j : Nat) (ms : List Int) (m : Int), o.get E1 = some (.int (j : Int)) ∧ E1[i]? = some (some (.lst (ms.map D.int))) ∧ ms[j]? = some m ∧
      WO X e2 E1 fun o2 E2 => ∃ m2, o2.get E2 = some (.int m2) ∧ E2 = E1 ∧ ks.nx (E1.set i (some (.lst ((ms.set j (m + m2)).map D.int)))))
    (hv : Vis X.env.scope x) (hdb : (x == ("__debug__" : Str)) = false) (hcd : (x == ("__classdict__" : Str)) = false)
    (ha : ∀ ov iv new, augStore e ov iv new = (do holding [new, ov, iv] (setItem ov iv new); release [new, ov, iv] []; pure .next) := by intros; rfl) :
    WS X n (.AugAssign (.Subscript (.Name x p) e tpos) .Add e2 pos) E ks := by
  intro Z H σ F Dd he hk
  obtain ⟨ds0, hE⟩ := hE
  obtain ⟨a0, vs0, Fd0, R0, hv0, hl0, _⟩ := he.lst hE
  refine wpS_by (ps_augS (pe_slot hN hv hdb hcd) pe_w get_list pe_w ip_add set_list ha) ⟨_, hv0, h Z H σ F _ he fun o E1 Z1 H1 F1 G1 w ⟨j, ms, m, g, hE1, hm, q⟩ f r1 => ?_⟩
  obtain ⟨Gj, rj, _⟩ := r1.use f.env g
  cases rj
  obtain ⟨a1, vs1, Fd1, R1, hv1, hl1, rd1, _⟩ := f.env.lst hE1
  rw [hv0] at hv1
  cases hv1
  have im : Imms (ms.map D.int) := imms_ints
  have hmd : (ms.map D.int)[j]? = some (.int m) := by rw [List.getElem?_map, hm]; rfl
  obtain ⟨v1, G3, e1, r3, _⟩ := rd1.get hmd
  cases r3
  refine ⟨a0, vs1, j, .int m, rfl, rfl, SqL.of hl1, e1, ?_⟩
  refine q Z1 H1 σ F1 _ f.env fun o2 E2 Z2 H2 F2 G2 w2 ⟨m2, g2, e2, kk⟩ f2 r2 => ?_
  subst e2
  obtain ⟨Gk, rk, _⟩ := r2.use f2.env g2
  cases rk
  obtain ⟨a2, vs2, Fd, R, hv2, hl2, rd, hR, hp⟩ := f2.env.lst hE1
  rw [hv0] at hv2
  cases hv2
  have hl := rd.len
  have hj : j < (ms.map D.int).length := (List.getElem?_eq_some_iff.mp hmd).1
  have rd0 := rd.nils im
  have rset : Reps X.K Z2 H2 ((ms.set j (m + m2)).map D.int) (vs2.set j (.int (m + m2))) [] := by
    rw [List.map_set]
    exact rd0.setI hmd trivial (.int _)
  obtain ⟨F', e3, s3⟩ := f2.env.chgL hE1 hv0 hl2 rd hR hp (Gt := []) (Fd' := []) f2.env.nd (fun y hy => nomatch hy) (fun y hy => nomatch hy) (by simp) rset
  have s4 : Stp Z2 H2 F2 Z2 (upd H2 a0 (.lst (vs2.set j (.int (m + m2))))) F' := s3
  refine ⟨m, m2, rfl, rfl, a0, vs2, (j : Int), j, rfl, rfl, hl2, ixN_nat (by omega), ?_⟩
  exact hk.nx _ Z2 _ σ F' kk ⟨e3, e3.nd, (fun y hy => nomatch hy), (f.nil.st.trans f2.nil.st).trans s4, Pin.refl⟩
end
end DL

/-! what a heap's root leads to, in plain Lean -/
namespace DL
open PySem PySem.Spec L2
variable [LamT]
def addV (o : List Int) : HV → List Int
  | .ptr n => if (n : Int) ∈ o then o else o ++ [(n : Int)]
  | _ => o
def addR (o : List Int) (r : Rec) : List Int := r.foldl addV o
def stepM (h : Hea) (o : List Int) (t : Nat) : List Int := if t < o.length then addR o (h.getD (o.getD t 0).toNat []) else o
def metH (h : Hea) : List Int := (List.range h.length).foldl (stepM h) [0]
structure MetOk (m : Nat) (o : List Int) : Prop where
  nd : o.Nodup
  b : ∀ x ∈ o, 0 ≤ x ∧ x < m
  ne : 0 < o.length
theorem int_pigeon : ∀ {m : Nat} {o : List Int}, o.Nodup → (∀ x ∈ o, 0 ≤ x ∧ x < m) → o.length ≤ m
  | 0, [], _, _ => Nat.le_refl _
  | 0, x :: o, _, h => by have := h x List.mem_cons_self; omega
  | m + 1, o, nd, h => by
    by_cases q : (m : Int) ∈ o
    · have l := List.length_erase_of_mem q
      have ih := int_pigeon (m := m) (o := o.erase (m : Int)) (nd.erase _) fun x hx => by
        have e := (nd.mem_erase_iff).mp hx
        have := h x e.2
        have := e.1
        omega
      omega
    · have ih := int_pigeon (m := m) (o := o) nd fun x hx => by
        have := h x hx
        have : x ≠ m := fun e => q (e ▸ hx)
        omega
      omega
theorem MetOk.len {m : Nat} {o : List Int} (h : MetOk m o) : o.length ≤ m := int_pigeon h.nd h.b
theorem MetOk.add {m : Nat} {o : List Int} (h : MetOk m o) : ∀ {v : HV}, v.ok m → MetOk m (addV o v)
  | .non, _ => h
  | .num _, _ => h
  | .ptr n, hv => by
    have hv : n < m := hv
    show MetOk m (if (n : Int) ∈ o then o else o ++ [(n : Int)])
    split
    · exact h
    · rename_i q
      refine ⟨List.nodup_append.mpr ⟨h.nd, by simp, fun a ha b hb e => ?_⟩, fun x hx => ?_, by rw [List.length_append]; exact Nat.lt_of_lt_of_le h.ne (Nat.le_add_right _ _)⟩
      · rw [List.mem_singleton.mp hb] at e
        exact q (e ▸ ha)
      · rcases List.mem_append.mp hx with z | z
        · exact h.b x z
        · rw [List.mem_singleton.mp z]; omega
theorem MetOk.addR {m : Nat} : ∀ {r : Rec} {o : List Int}, MetOk m o → (∀ v ∈ r, v.ok m) → MetOk m (addR o r)
  | [], _, h, _ => h
  | v :: r, o, h, hv => MetOk.addR (r := r) (o := addV o v) (h.add (hv v List.mem_cons_self)) fun x hx => hv x (List.mem_cons_of_mem _ hx)
theorem MetOk.step {w : Nat} {h : Hea} (wf : WfH w h) {o : List Int} (k : MetOk h.length o) (t : Nat) : MetOk h.length (stepM h o t) := by
  unfold stepM
  split
  · refine k.addR fun v hv => ?_
    rw [List.getD_eq_getElem?_getD] at hv
    cases e : h[(o.getD t 0).toNat]? with
    | none => rw [e] at hv; exact nomatch hv
    | some r => rw [e] at hv; exact wf.ok r (List.mem_of_getElem? e) v hv
  · exact k
theorem MetOk.fold {w : Nat} {h : Hea} (wf : WfH w h) : ∀ {ts : List Nat} {o : List Int}, MetOk h.length o → MetOk h.length (ts.foldl (stepM h) o)
  | [], _, k => k
  | t :: ts, _, k => MetOk.fold wf (ts := ts) (k.step wf t)
theorem MetOk.one {w : Nat} {h : Hea} (wf : WfH w h) : MetOk h.length [0] := ⟨by simp, fun x hx => by
  rw [List.mem_singleton.mp hx]
  have := wf.pos
  omega, by decide⟩
theorem metH_ok {w : Nat} {h : Hea} (wf : WfH w h) : MetOk h.length (metH h) := MetOk.fold wf (MetOk.one wf)
end DL

/-! what is met is closed -/
namespace DL
open PySem PySem.Spec L2
variable [LamT]
theorem addV_pre {o : List Int} : ∀ {v : HV}, ∃ ys, addV o v = o ++ ys
  | .non => ⟨[], by simp [addV]⟩
  | .num _ => ⟨[], by simp [addV]⟩
  | .ptr n => by
    show ∃ ys, (if (n : Int) ∈ o then o else o ++ [(n : Int)]) = o ++ ys
    split
    · exact ⟨[], by simp⟩
    · exact ⟨_, rfl⟩
theorem addR_pre : ∀ {r : Rec} {o : List Int}, ∃ ys, addR o r = o ++ ys
  | [], o => ⟨[], by simp [addR]⟩
  | v :: r, o => by
    obtain ⟨ys, e⟩ := addV_pre (o := o) (v := v)
    obtain ⟨zs, e2⟩ := addR_pre (r := r) (o := addV o v)
    exact ⟨ys ++ zs, by show addR (addV o v) r = _; rw [e2, e, List.append_assoc]⟩
theorem addR_has : ∀ {r : Rec} {o : List Int} {n : Nat}, HV.ptr n ∈ r → (n : Int) ∈ addR o r
  | v :: r, o, n, h => by
    show (n : Int) ∈ addR (addV o v) r
    rcases List.mem_cons.mp h with q | q
    · subst q
      obtain ⟨ys, e⟩ := addR_pre (r := r) (o := addV o (.ptr n))
      rw [e]
      refine List.mem_append_left _ ?_
      show (n : Int) ∈ (if (n : Int) ∈ o then o else o ++ [(n : Int)])
      split
      · assumption
      · simp
    · exact addR_has q
def Clo (h : Hea) (o : List Int) (t : Nat) : Prop := ∀ i, i < t → i < o.length → ∀ n, HV.ptr n ∈ h.getD (o.getD i 0).toNat [] → (n : Int) ∈ o
theorem getD_pre {o ys : List Int} {i : Nat} (h : i < o.length) : (o ++ ys).getD i 0 = o.getD i 0 := by
  rw [List.getD_eq_getElem?_getD, List.getD_eq_getElem?_getD, List.getElem?_append_left h]
theorem Clo.step {h : Hea} {o : List Int} {t : Nat} (c : Clo h o t) : Clo h (stepM h o t) (t + 1) := by
  unfold stepM
  split
  · rename_i ht
    obtain ⟨ys, e⟩ := addR_pre (r := h.getD (o.getD t 0).toNat []) (o := o)
    intro i hi hl n hn
    by_cases q : i = t
    · subst q
      rw [e, getD_pre ht] at hn
      exact addR_has hn
    · rw [e, getD_pre (by omega)] at hn
      rw [e]
      exact List.mem_append_left _ (c i (by omega) (by omega) n hn)
  · rename_i ht
    intro i hi hl n hn
    exact c i (by omega) hl n hn
theorem clo_fold {h : Hea} : ∀ t, Clo h ((List.range t).foldl (stepM h) [0]) t
  | 0 => fun i hi => by omega
  | t + 1 => by
    rw [List.range_succ, List.foldl_append]
    exact (clo_fold t).step
/-- what a met record leads to is met -/
theorem metH_clo {w : Nat} {h : Hea} (wf : WfH w h) {q : Nat} (hq : (q : Int) ∈ metH h) {n : Nat} (hn : HV.ptr n ∈ h.getD q []) : (n : Int) ∈ metH h := by
  have k := metH_ok wf
  have c := clo_fold (h := h) h.length
  obtain ⟨i, hi, e⟩ := List.getElem_of_mem hq
  have l := k.len
  refine c i (by omega) hi n ?_
  have eg : (metH h).getD i 0 = (q : Int) := by rw [List.getD_eq_getElem?_getD, List.getElem?_eq_getElem hi, e]; rfl
  show HV.ptr n ∈ h.getD ((metH h).getD i 0).toNat []
  rw [eg, Int.toNat_natCast]
  exact hn
/-- a value by the numbers of meeting -/
def rnV (o : List Int) : HV → HV
  | .ptr n => .ptr (o.idxOf (n : Int))
  | v => v
def seeH (h : Hea) : Hea := (metH h).map fun q => (h.getD q.toNat []).map (rnV (metH h))
end DL

/-! dicts with keys that are computed -/
namespace DL
open PySem PySem.Spec L2
variable [LamT]
section
variable {X : Cx} {i : Nat} {x : Str} {e : Expr} {E : EnvT} {k : Opd → EnvT → Prop} {p pos : Pos}
/-- x[e], a key that is a number -/
theorem wo_dgetI (hu : X.A.units + 1 < cLine) (hN : X.N[i]? = some x) (hE : ∃ keys0 ds0, E[i]? = some (some (.dic keys0 ds0))) (hs : NoSl e)
    (h : WO X e E fun o E1 => ∃ (keys : List Key) (ds : List D) (m : Int) (j : Nat) (d : D), o.get E1 = some (.int m) ∧ E1[i]? = some (some (.dic keys ds)) ∧ keys.Nodup ∧ keys[j]? = some (.inl m) ∧ ds[j]? = some d ∧ Imm d ∧ k (.val d) E1)
    (hv : Vis X.env.scope x) (hdb : (x == ("__debug__" : Str)) = false) (hcd : (x == ("__classdict__" : Str)) = false) :
    WO X (.Subscript (.Name x p) e pos) E k := by
  intro Z H σ F Q he hk'
  obtain ⟨keys0, ds0, hE⟩ := hE
  obtain ⟨a0, vs0, Fd0, R0, hv0, hH0, _⟩ := he.dic hE
  refine wpE_by (pe_dget hu (pe_var hN hv hdb hcd) pe_w hs) ⟨_, hv0, h Z H σ F _ he fun o E1 Z1 H1 F1 G1 w ⟨keys, ds, m, j, d, g, hE1, hk, hj, hd, hi, kk⟩ f r1 => ?_⟩
  obtain ⟨Gj, rj, _⟩ := r1.use f.env g
  cases rj
  obtain ⟨a, vs, Fd, R, hv1, hH, hl, rs, hR, hp⟩ := f.env.dic hE1
  rw [hv0] at hv1
  cases hv1
  obtain ⟨v, G', hvj, rv, _⟩ := rs.get hd
  have gk := DGet.k (k := Sum.inl m) hH
  rw [valV_zip hk hj hvj] at gk
  exact ⟨_, v, rfl, gk, hk' _ E1 Z1 H1 F1 [] v kk f.nil (rv.nils hi)⟩
theorem valV_none {k : Key} : ∀ {ks : List Key} {vs : List V}, k ∉ ks → valV (ks.zip vs) k = none
  | [], _, _ => rfl
  | _ :: _, [], _ => rfl
  | k0 :: ks, v0 :: vs, h => by
    have ih := valV_none (k := k) (ks := ks) (vs := vs) fun q => h (List.mem_cons_of_mem _ q)
    have ne : ¬ k0 = k := fun q => h (q ▸ List.mem_cons_self)
    unfold valV at ih ⊢
    rw [List.zip_cons_cons, List.find?_cons_of_neg (by simpa using ne)]
    exact ih
/-- is there a value at the key -/
theorem valV_some {k : Key} : ∀ {ks : List Key} {vs : List V}, ks.length = vs.length → k ∈ ks → (valV (ks.zip vs) k).isSome = true
  | [], _, _, h => nomatch h
  | _ :: _, [], l, _ => by simp at l
  | k0 :: ks, v0 :: vs, l, h => by
    by_cases q : k0 = k
    · unfold valV
      rw [List.zip_cons_cons, List.find?_cons_of_pos (by simpa using q)]
      rfl
    · have ih := valV_some (k := k) (ks := ks) (vs := vs) (by simpa using l) ((List.mem_cons.mp h).resolve_left fun z => q z.symm)
      unfold valV at ih ⊢
      rw [List.zip_cons_cons, List.find?_cons_of_neg (by simpa using q)]
      exact ih
theorem valV_mem {ns : List Int} {m : Int} {vs : List V} (l : (ns.map (Sum.inl : Int → Key)).length = vs.length) : (valV ((ns.map (Sum.inl : Int → Key)).zip vs) (Sum.inl m)).isSome = decide (m ∈ ns) := by
  by_cases q : m ∈ ns
  · rw [valV_some l (List.mem_map.mpr ⟨m, q, rfl⟩), decide_eq_true q]
  · rw [valV_none (fun z => by
      obtain ⟨y, hy, e⟩ := List.mem_map.mp z
      cases e
      exact q hy), decide_eq_false q]
    rfl
end
end DL

/-! d[e] = v, a number that is no key yet -/
namespace DL
open PySem PySem.Spec L2
variable [LamT]
theorem putK_new {k : Key} {ks : List Key} {vs : List V} {v : V} (l : ks.length = vs.length) (h : k ∉ ks) : putK (ks.zip vs) k v = (ks ++ [k]).zip (vs ++ [v]) := by
  have e : (ks.zip vs).any (fun kv => decide (kv.1 = k)) = false := by
    rw [List.any_eq_false]
    intro p hp z
    have z := of_decide_eq_true z
    exact h (z ▸ (List.of_mem_zip hp).1)
  unfold putK
  rw [e, if_neg Bool.false_ne_true, List.zip_append l]
  rfl
section
variable {X : Cx} {i : Nat} {x : Str} {e ev : Expr} {E : EnvT} {p pos pos' : Pos} {n : List Nat} {ks : KS}
end
end DL

/-! {0: True} -/
namespace DL
open PySem PySem.Spec L2
variable [LamT]
section
variable {X : Cx} {E : EnvT} {k : Opd → EnvT → Prop} {pos p1 p2 : Pos} {m : Int} {b : Bool} {j1 j2 : Nat}
theorem wo_dic1 (h : k (.val (.dic ([m].map Sum.inl) [.bl b])) E) : WO X (.Dict [some (.Constant (.int m) j1 p1)] [.Constant (.bool b) j2 p2] pos) E k := by
  intro Z H σ F Q he hk
  refine wpE_by (pe_disp (pps_cons pe_int pe_bl pps_nil) rfl rfl (by simp) (Nat.le_of_ble_eq_true rfl)) fun p hp0 => ⟨upd_same, [(Sum.inl m, .bl b)], rfl, Nat.le_of_ble_eq_true rfl, ?_⟩
  have g : Grow H (upd (upd H p (.dK [])) p (.dK (mergeK [] [((Sum.inl m : Key), V.bl b)]))) [p] :=
    ⟨fun a u e => by rw [upd_ne (ne_of_none e hp0), upd_ne (ne_of_none e hp0)]; exact e, fun a ha => by rw [List.mem_singleton.mp ha]; exact hp0, by simp⟩
  have pF : p ∉ F := fun q => by
    obtain ⟨o, e, _⟩ := he.r.mem p q
    rw [hp0] at e
    cases e
  refine hk _ E Z _ F [p] _ h ⟨⟨he.r.kp g.kp fun a _ o _ e => g.gr a o e, he.nd, he.nz, he.zt.gr g⟩, List.nodup_cons.mpr ⟨pF, he.nd⟩, fun x hx z => ?_, g.st⟩ (.dic (vs := [.bl b]) (F := []) (by rw [upd_same]; rfl) rfl (Reps.cons (.bl b) .nil))
  rw [List.mem_singleton.mp hx] at z
  obtain ⟨o, e, _⟩ := he.zt.th p z
  rw [hp0] at e
  cases e
end
end DL

/-! y = {key: value for target in iter}, keys that are numbers, each met once -/
namespace DL
open PySem PySem.Spec L2
variable [LamT]
section
variable {X : Cx} {kx vx tg iter : Expr} {scope : Scope} {own : List (Str × Nat)} {pos : Pos} {E : EnvT} {k : Opd → EnvT → Prop} {g : TG}
abbrev BE (X : Cx) (scope : Scope) (e : Expr) : TE := fun σ' H' Q' => ∀ (s : Shared) (H0 : Hp) (C : Addr) (cl : List (Str × Addr)) (fp : List Addr), wpE (X.blk s H0 scope (compEnvC scope cl C X.env) fp) e σ' H' Q'
abbrev BTs (X : Cx) (scope : Scope) (ifs : List Expr) : TT := fun σ' H' Q' => ∀ (s : Shared) (H0 : Hp) (C : Addr) (cl : List (Str × Addr)) (fp : List Addr), wpTs (X.blk s H0 scope (compEnvC scope cl C X.env) fp) ifs σ' H' Q'
def DcX (X : Cx) (kx vx : Expr) (scope : Scope) (g : TG) (vs : List Nat) (m : Nat) (src : Nat → D) (w : List (Nat × D)) (E0 : EnvT) (kk : List Int → List D → Prop) : Prop :=
  ∃ (ns : List Int) (ds : List D), ns.length = m ∧ ds.length = m ∧ m ≤ 100000 ∧ ns.Nodup ∧ Imms ds ∧ (∀ p ∈ w, E0[p.1]? = some (some p.2)) ∧
    (∀ (j : Nat) (n : Int) (d : D), ns[j]? = some n → ds[j]? = some d → ∃ E2, TgB X.K g vs (src j) E0 E2 ∧ ∀ (s : Shared) (H : Hp) (C : Addr) (cl : List (Str × Addr)) (fp : List Addr),
      WE (X.blk s H scope (compEnvC scope cl C X.env) fp) kx E2 fun y E3 => y = .int n ∧ ∀ (s : Shared) (H : Hp) (C : Addr) (cl : List (Str × Addr)) (fp : List Addr),
        WE (X.blk s H scope (compEnvC scope cl C X.env) fp) vx E3 fun z E4 => z = d ∧ wipeE E4 vs = E0) ∧
    kk ns ds
theorem mem1 {H : Hp} {b : Addr} {u : HO} (h : H b = some u) (n : NTb u) : ∀ a ∈ [b], ∃ u, H a = some u ∧ NTb u := fun a ha => by
  cases List.mem_singleton.mp ha
  exact ⟨u, h, n⟩
theorem take_next {α : Type} {xs : List α} {i : Nat} {x : α} (h : xs[i]? = some x) : xs.take (i + 1) = xs.take i ++ [x] := by
  rw [List.take_succ, h]; rfl
theorem dc_tree {vs : List Nat} (h : WI X tg iter E fun w m src E1 => DcX X kx vx scope g vs m src w (wipeE E1 vs) fun ns ds => k (.val (.dic (ns.map Sum.inl) ds)) (wipeE E1 vs)) :
    ∀ (Z : Addr → Prop) (H : Hp) (σ : Sl) (F : List Addr) (Q : VK), EnvS X.K Z H E σ F →
    (∀ (o : Opd) (E' : EnvT) (Z' : Addr → Prop) (H' : Hp) (F' G : List Addr) (v : V), k o E' → Fin X.K Z H σ F E' Z' H' F' G → OpdR X.K Z' H' σ o v G → Q v H') →
    tDc (wpI X tg iter) g (BTs X scope []) (BE X scope kx) (BE X scope vx) vs σ H Q := by
  intro Z H σ F Q he hk
  refine h Z H σ F _ he fun w m src E1 Z1 H1 F1 J Gp G ⟨ns, ds, hns, hds, hm, nd, ims, iw, step, fin⟩ f1 sok g1 stay => ?_
  have f10 := f1.nil
  intro Dd hD
  obtain ⟨Fw, ew, subw⟩ := f10.env.wipe vs
  have St0 : ∀ (i : Nat) (H' : Hp), Prop := fun i H' => True
  refine ⟨fun i l H' => l = m - i ∧ i ≤ m ∧ ∃ Z' F' ws, EnvS X.K Z' H' (wipeE E1 vs) (wipe σ vs) F' ∧ H' Dd = some (.dK (((ns.take i).map Sum.inl).zip ws)) ∧ ws.length = i ∧ Reps X.K Z' H' (ds.take i) ws [] ∧ (Dd :: F').Nodup ∧ ¬ Z' Dd ∧ Stp Z1 H1 F1 Z' H' (Dd :: F'), ⟨m, by simp, Nat.zero_le _, ?_⟩, ?_⟩
  · have gr := Grow.new (H := H1) (p := Dd) (o := .dK []) hD
    have dF : Dd ∉ Fw := fun q => by
      obtain ⟨o, e, _⟩ := ew.r.mem Dd q
      rw [hD] at e
      cases e
    refine ⟨Z1, Fw, [], ⟨ew.r.kp gr.kp fun a _ o _ e => gr.gr a o e, ew.nd, ew.nz, ew.zt.gr gr⟩, upd_same, rfl, by rw [List.take_zero]; exact .nil, List.nodup_cons.mpr ⟨dF, ew.nd⟩, fun z => ?_, ?_⟩
    · obtain ⟨o, e, _⟩ := f10.env.zt.th Dd z
      rw [hD] at e
      cases e
    · refine (gr.st (Z := Z1) (F := F1)).sub fun x hx => ?_
      rcases List.mem_cons.mp hx with q | q
      · rw [q]; exact List.mem_append_left _ (by simp)
      · exact List.mem_append_right _ (subw.subset q)
  · rintro i l H2 ⟨rfl, hi, Z2, F2, ws, e2, hD2, lw, ra, nd2, nz2, st2⟩
    have gp : Gp Z2 H2 := stay (wipeE E1 vs) Z2 H2 σ F2 [Dd] ⟨e2.unwipe, nd2, fun a ha => by rw [List.mem_singleton.mp ha]; exact nz2, st2, Pin.refl⟩ iw
    by_cases hlt : i < m
    · refine .inr ⟨sok.goes Z2 i H2 hlt gp, fun H' => ∃ Z' F' ws, EnvS X.K Z' H' (wipeE E1 vs) (wipe σ vs) F' ∧ H' Dd = some (.dK (((ns.take (i + 1)).map Sum.inl).zip ws)) ∧ ws.length = i + 1 ∧ Reps X.K Z' H' (ds.take (i + 1)) ws [] ∧ (Dd :: F').Nodup ∧ ¬ Z' Dd ∧ Stp Z1 H1 F1 Z' H' (Dd :: F'), fun H' q => ⟨m - (i + 1), by omega, rfl, hlt, q⟩, fun x H3 y => ?_⟩
      obtain ⟨rx, gr⟩ := sok.gives Z2 i H2 x H3 hlt gp y
      have e3 : EnvS X.K Z2 H3 (wipeE E1 vs) (wipe σ vs) F2 := ⟨e2.r.kp gr.kp fun a _ o _ e => gr.gr a o e, e2.nd, e2.nz, e2.zt.gr gr⟩
      have hD3 := gr.gr _ _ hD2
      have ra3 := ra.grow gr
      have st3 : Stp Z1 H1 F1 Z2 H3 ([Dd] ++ F2) := st2.trans gr.st
      obtain ⟨n, en⟩ : ∃ n, ns[i]? = some n := ⟨_, List.getElem?_eq_getElem (by omega)⟩
      obtain ⟨d, ed⟩ : ∃ d, ds[i]? = some d := ⟨_, List.getElem?_eq_getElem (by omega)⟩
      have tn := take_next en
      have td := take_next ed
      have nin : n ∉ ns.take i := fun q => by
        have z : (ns.take (i + 1)).Nodup := (List.take_sublist _ _).nodup nd
        rw [tn] at z
        exact (List.nodup_append.mp z).2.2 n q n (by simp) rfl
      obtain ⟨E4, tb, run⟩ := step i n d en ed
      refine tb Z2 H3 (wipe σ vs) x F2 _ e3 rx fun σ4 F4 e4 sub4 hw4 => ?_
      refine ⟨by rw [hw4, wipe_idem], ?_⟩
      have memA := mem1 hD3 ntb_dK
      have nzA : ∀ a ∈ [Dd], ¬ Z2 a := fun a ha => by rw [List.mem_singleton.mp ha]; exact nz2
      have nd4 : ([Dd] ++ F4).Nodup := List.nodup_cons.mpr ⟨fun q => (List.nodup_cons.mp nd2).1 (sub4 Dd q), e4.nd⟩
      have st4 : Stp Z1 H1 F1 Z2 H3 ([Dd] ++ F4) := st3.sub fun a ha => by
        rcases List.mem_append.mp ha with q | q
        · exact List.mem_append_left _ q
        · exact List.mem_append_right _ (sub4 a q)
      intro s H0 C cl fp
      refine wif_nil (k := fun b E3 => b = true ∧ E3 = E4) ⟨rfl, rfl⟩ Z2 H3 σ4 F4 _ e4 fun b E5 Z5 H5 F5 q5 f5 => ?_
      obtain ⟨rfl, rfl⟩ := q5
      rw [if_pos rfl]
      have off5 := f5.st.apart (G := [Dd]) (F1 := F4) (F2 := F5) memA nd4 f5.nd
      have nz5 := f5.st.nz memA off5.2 nzA
      have hD5 := f5.st.fr _ _ hD3 (off5.2 Dd List.mem_cons_self) ntb_dK
      have ra5 := ra3.step f5.st fun a ha => nomatch ha
      have st5 : Stp Z1 H1 F1 Z5 H5 ([Dd] ++ F5) := st4.push f5.st
      have memB := mem1 hD5 ntb_dK
      intro s' H0' C' cl' fp'
      refine run s' H0' C' cl' fp' Z5 H5 σ4 F5 _ f5.env fun o E6 Z6 H6 F6 Gy y6 ⟨dy, eo, ey, run2⟩ f6 r6 => ?_
      subst eo
      subst ey
      cases (show Rep X.K Z6 H6 (.int n) y6 Gy from r6)
      have off6 := f6.st.apart (G := [Dd]) (F1 := F5) (F2 := [] ++ F6) memB off5.1 f6.nd
      have nz6 := f6.st.nz memB off6.2 nz5
      have hD6 := f6.st.fr _ _ hD5 (off6.2 Dd List.mem_cons_self) ntb_dK
      have ra6 := ra5.step f6.st fun a ha => nomatch ha
      have st6 : Stp Z1 H1 F1 Z6 H6 ([Dd] ++ F6) := st5.push f6.st
      have memC := mem1 hD6 ntb_dK
      intro s2 H02 C2 cl2 fp2
      refine run2 s2 H02 C2 cl2 fp2 Z6 H6 σ4 F6 _ f6.env fun o E7 Z7 H7 F7 Gz z7 ⟨dz, eo, ez, ew7⟩ f7 r7 => ?_
      subst eo
      subst ez
      have rz : Rep X.K Z7 H7 dz z7 [] := Rep.nils r7 (imms_get ims ed)
      have off7 := f7.st.apart (G := [Dd]) (F1 := F6) (F2 := Gz ++ F7) memC off6.1 f7.nd
      have nz7 := f7.st.nz memC off7.2 nz6
      have hD7 := f7.st.fr _ _ hD6 (off7.2 Dd List.mem_cons_self) ntb_dK
      have ra7 := ra6.step f7.st fun a ha => nomatch ha
      have st7 : Stp Z1 H1 F1 Z7 H7 ([Dd] ++ F7) := st6.push f7.nil.st
      have nd7 : ([Dd] ++ F7).Nodup := (List.Sublist.append_left (List.sublist_append_right Gz F7) [Dd]).nodup off7.1
      have lk : (((ns.take i).map (Sum.inl : Int → Key))).length = ws.length := by rw [List.length_map, List.length_take]; omega
      have nk : (Sum.inl n : Key) ∉ (ns.take i).map (Sum.inl : Int → Key) := fun z => by
        obtain ⟨y, hy, e⟩ := List.mem_map.mp z
        cases e
        exact nin hy
      refine ⟨_, Sum.inl n, rfl, hD7, ?_, ?_⟩
      · rw [List.length_zip, lk, Nat.min_self, lw]
        exact Nat.lt_of_lt_of_le hlt (Nat.le_trans hm (by decide : 100000 ≤ sizeLine))
      · have su : Stp Z7 H7 [Dd] Z7 (upd H7 Dd (.dK (putK (((ns.take i).map (Sum.inl : Int → Key)).zip ws) (Sum.inl n) z7))) [Dd] := Stp.upd (by simp) (nz7 Dd List.mem_cons_self) (dic_nt hD7)
        obtain ⟨F8, e8, sub8⟩ := f7.env.wipe vs
        have ew' : wipe σ4 vs = wipe σ vs := by rw [hw4, wipe_idem]
        rw [ew', ew7] at e8
        have nd8 : (Dd :: F8).Nodup := (List.Sublist.append_left sub8 [Dd]).nodup nd7
        refine ⟨Z7, F8, ws ++ [z7], ⟨e8.r.step su fun a ha q => (List.nodup_cons.mp nd8).1 ((List.mem_singleton.mp q) ▸ ha), e8.nd, e8.nz, e8.zt.stp su⟩, ?_, by rw [List.length_append, lw]; rfl, ?_, nd8, nz7 Dd List.mem_cons_self, ?_⟩
        · rw [upd_same, putK_new lk nk, tn, List.map_append]
          rfl
        · rw [td]
          exact (ra7.app (Reps.one rz)).step su fun a ha => nomatch ha
        · refine st7.trans (su.more (fun a ha => by rw [List.mem_singleton.mp ha]; exact List.mem_append_left _ List.mem_cons_self) fun a ha => ?_)
          rcases List.mem_cons.mp ha with q | q
          · exact .inl (by rw [q]; simp)
          · exact .inr (List.mem_append_right _ (sub8.subset q))
    · have e : i = m := by omega
      subst e
      refine .inl ⟨sok.stops Z2 H2 gp, ?_⟩
      rw [List.take_of_length_le (by omega)] at hD2 ra
      exact hk _ _ Z2 H2 F2 [Dd] _ fin ⟨e2.unwipe, nd2, fun a ha => by rw [List.mem_singleton.mp ha]; exact nz2, f10.st.trans st2⟩ (.dic hD2 (by rw [List.length_map]; omega) ra)
theorem wo_dcX (hc : X.calm = true) (hN : X.N.Nodup) (ok : BlkOk X.N X.env.scope scope own)
    (hg : ∀ (s : Shared) (H : Hp) (C : Addr) (cl : List (Str × Addr)) (fp : List Addr), PG (X.blk s H scope (compEnvC scope cl C X.env) fp) tg g)
    (h : WI X tg iter E fun w m src E1 => DcX X kx vx scope g (own.map (·.2)) m src w (wipeE E1 (own.map (·.2))) fun ns ds => k (.val (.dic (ns.map Sum.inl) ds)) (wipeE E1 (own.map (·.2))))
    (hs : ∀ x, foldedSetIterable iter X.env x = pure x := by intro _; rfl) : WO X (.DictComp kx vx [⟨tg, iter, [], 0⟩] scope pos) E k := by
  intro Z H σ F Q he hk
  exact wpE_by (pe_dc (pos := pos) (kx := kx) (vx := vx) (ifs := []) (tt := BTs X scope []) (tk := BE X scope kx) (tv := BE X scope vx) hc hN (pi_w (iter := iter) (tg := tg)) ok hg (fun s H0 C cl fp => ⟨fun pins s' σ' H' Q' I' q => q s H0 C cl fp pins s' I'⟩) (fun s H0 C cl fp => ⟨fun pins s' σ' H' Q' I' q => q s H0 C cl fp pins s' I'⟩) (fun s H0 C cl fp => ⟨fun pins s' σ' H' Q' I' q => q s H0 C cl fp pins s' I'⟩) hs) (dc_tree h Z H σ F Q he hk)
end
section
variable {X : Cx} {a : Expr} {E : EnvT} {pos p : Pos}
/-- enumerate of a list of things that own nothing -/
theorem wi_enumL {k : List (Nat × D) → Nat → (Nat → D) → EnvT → Prop} {elts : List Expr} {kk : Nat} {tpos : Pos} (hg : Gl X "enumerate") (hm : X.mg "enumerate" = none) (h : WO X a E fun o1 E1 => ∃ ds, (o1.get E1).bind D.lseq = some ds ∧ Imms ds ∧
      k (watch E1 o1) ds.length (fun i => .tup [.int (i : Int), ds.getD i .non]) E1)
    (hs : starEach [a] X.env = [(false, eval a X.env)] := by rfl) (hs2 : starEach [a] X.env = (false, eval a X.env) :: starEach [] X.env := by rfl) :
    WI X (.Tuple elts kk tpos) (.Call (.Name "enumerate" p) [a] [] pos) E k := by
  intro Z H σ F R he hk
  have hA : WA X [a] E fun os E1 => ∃ o1, os = [o1] ∧ ∃ ds, (o1.get E1).bind D.lseq = some ds ∧ Imms ds ∧ k (watch E1 o1) ds.length (fun i => .tup [.int (i : Int), ds.getD i .non]) E1 := wa_cons (WO.mono h fun o1 E1 q => wa_nil ⟨o1, rfl, q⟩) hs2
  refine wpI_by (pi_enum hg hm pa_w hs) (hA Z H σ F _ he fun os E1 Z1 H1 F1 G vs ⟨o1, eo, ds, g1, i1, kk⟩ f1 rs => ?_)
  subst eo
  cases rs with
  | cons r1 rn =>
    cases rn
    rename_i v1 Ga
    obtain ⟨d1, gd1, gs1⟩ := seq_of g1
    obtain ⟨G1, r1', _⟩ := r1.use f1.env gd1
    obtain ⟨x, xs, _, rfl, hx, rx⟩ := r1'.lseq gs1
    have rx0 := rx.nils i1
    have dis := (List.nodup_append.mp f1.nd).2.2
    have st1 := OpdR.stay (w := watch E1 o1) f1.env r1 gd1 gs1 i1 (fun x hx hf => dis x (List.mem_append_left _ hx) x hf rfl) (fun p hp => hp)
    refine ⟨x, xs, rfl, hx, hk _ _ _ E1 Z1 H1 F1 _ (fun Z' H' => ∃ xs, SqL X.K H' x xs ∧ Reps X.K Z' H' ds xs []) [] kk f1.nil ⟨fun Z' i H' hi ⟨xs, q1, q2⟩ => ?_, fun Z' H' ⟨xs, q1, q2⟩ => ⟨xs, q1, by have := q2.len; omega⟩, fun Z' i H' v H'' hi ⟨xs, q1, q2⟩ yv => ?_⟩ ⟨xs, hx, rx0⟩ fun E' Z' H' σ' F' G fs hE => st1 E' Z' H' σ' F' G fs hE⟩
    · have := q2.len
      exact ⟨xs, xs[i]'(by omega), q1, List.getElem?_eq_getElem _⟩
    · obtain ⟨T, u, rfl, hT, rfl, hu⟩ := yv
      obtain ⟨u', G3, hu', ru, _⟩ := q2.get (i := i) (d := ds[i]) (List.getElem?_eq_getElem hi)
      rw [hu xs q1] at hu'
      cases hu'
      rw [getD_some (List.getElem?_eq_getElem hi)]
      have gr := Grow.new0 (H := H') (p := T) (o := .tup [.int (i : Nat), u]) hT
      exact ⟨.tup (SqT.of upd_same) (.cons (.int _) (.cons ((ru.nils (imms_get i1 (List.getElem?_eq_getElem hi))).grow gr) .nil)), gr⟩
end
/-! ### e in d, e not in d -/
section
variable {X : Cx}
theorem op_niD (hu : X.A.units + 1 < cLine) : OpR X (compareOp .NotIn) (fun y x H Q => ∃ a o, x = .ref a ∧ DGet H a y o ∧ Q (.bl (!o.isSome)) H) := by
  intro pins s σ H y x v u Q I ry rx h
  obtain ⟨a, o, rfl, g, q⟩ := h
  obtain rfl : u = Value.ref a := rx
  exact d_notIn hu I g ry fun s3 I3 => ⟨.bl (!o.isSome), H, I3, rfl, q⟩
theorem op_inD (hu : X.A.units + 1 < cLine) : OpR X (compareOp .In) (fun y x H Q => ∃ a o, x = .ref a ∧ DGet H a y o ∧ Q (.bl o.isSome) H) := by
  intro pins s σ H y x v u Q I ry rx h
  obtain ⟨a, o, rfl, g, q⟩ := h
  obtain rfl : u = Value.ref a := rx
  exact d_in hu I g ry fun s3 I3 => ⟨.bl o.isSome, H, I3, rfl, q⟩
theorem cmp_niD {ns : List Int} {ds : List D} {m : Int} (hu : X.A.units + 1 < cLine) : CmpD X .NotIn (.int m) (.dic (ns.map Sum.inl) ds) (!decide (m ∈ ns)) := .mk (op_niD hu) fun Z H v1 v2 G1 G2 r1 r2 Q q => by
  cases r1
  cases r2 with
  | dic hH hl rs =>
    refine ⟨_, _, rfl, DGet.k (k := Sum.inl m) hH, ?_⟩
    rw [valV_mem hl]
    exact q _ H [] (.bl _) Grow.refl
theorem cmp_inD {ns : List Int} {ds : List D} {m : Int} (hu : X.A.units + 1 < cLine) : CmpD X .In (.int m) (.dic (ns.map Sum.inl) ds) (decide (m ∈ ns)) := .mk (op_inD hu) fun Z H v1 v2 G1 G2 r1 r2 Q q => by
  cases r1
  cases r2 with
  | dic hH hl rs =>
    refine ⟨_, _, rfl, DGet.k (k := Sum.inl m) hH, ?_⟩
    rw [valV_mem hl]
    exact q _ H [] (.bl _) Grow.refl
end
/-! ### d[e] = v as a target -/
def rSetD : TSet := fun o i v H Q => ∃ a H', o = .ref a ∧ DPut H a i v H' ∧ Q H'
theorem set_dict {X : Cx} (hu : X.A.units + 1 < cLine) : PSet X rSetD := by
  intro pins s σ H o i v ov iv u Q I ro ri rv h
  obtain ⟨a, H', rfl, g, q⟩ := h
  obtain rfl : ov = Value.ref a := ro
  exact d_setItem hu I g ri rv fun s4 I4 => ⟨H', I4, q⟩
section
variable {X : Cx} {n : List Nat} {e : Expr} {E : EnvT} {pos p : Pos} {i : Nat} {x : Str} {d : D} {k : EnvT → Prop}
theorem wg_dputN (hu : X.A.units + 1 < cLine) (hN : X.N[i]? = some x) (hE : ∃ k0 d0, E[i]? = some (some (.dic k0 d0))) (im : Imm d)
    (h : WO X e E fun o E1 => ∃ (ns : List Int) (ds : List D) (m : Int), o.get E1 = some (.int m) ∧ E1[i]? = some (some (.dic (ns.map Sum.inl) ds)) ∧ m ∉ ns ∧ Imms ds ∧ ns.length ≤ 100000 ∧ k (E1.set i (some (.dic ((ns ++ [m]).map Sum.inl) (ds ++ [d])))))
    (hv : Vis X.env.scope x) (hdb : (x == ("__debug__" : Str)) = false) (hcd : (x == ("__classdict__" : Str)) = false)
    (ha : ∀ v, assign (.Subscript (.Name x p) e pos) X.env v = (do
      let ov ← holding [v] (eval (.Name x p) X.env)
      let iv ← holding [v, ov] (eval e X.env)
      standAt pos
      holding [v, ov, iv] (setItem ov iv v)
      release [v, ov, iv] []) := by intro _; rfl) : WG X n (.Subscript (.Name x p) e pos) d E k := by
  intro Z H σ F G v Q he r nd nz hk'
  obtain ⟨k0, d0, hE⟩ := hE
  obtain ⟨a, vs0, Fd0, R0, hv1, hH0, _⟩ := he.dic hE
  have eG := r.imm im
  subst eG
  refine wpG_by (pg_sub (pe_slot hN hv hdb hcd) pe_w (set_dict hu) ha) ⟨_, hv1, h Z H σ F _ he fun o E2 Z2 H2 F2 G2 w ⟨ns, ds, m, g, hE2, nin, ims, hlen, kk⟩ f2 r2 => ?_⟩
  obtain ⟨Gk, rk, _⟩ := r2.use f2.env g
  cases rk
  obtain ⟨a2, vs, Fd, R, hv2, hH, hl, rs, hR, hp⟩ := f2.env.dic hE2
  rw [hv1] at hv2
  cases hv2
  have rv2 : Rep X.K Z2 H2 d v [] := r.step f2.st fun y hy => nomatch hy
  have nk : (Sum.inl m : Key) ∉ ns.map (Sum.inl : Int → Key) := fun z => by
    obtain ⟨y, hy, e⟩ := List.mem_map.mp z
    cases e
    exact nin hy
  have haF : a ∈ F2 := hp.mem_iff.mpr (List.mem_append_left _ List.mem_cons_self)
  have s1 : Stp Z2 H2 [a] Z2 (upd H2 a (.dK (putK ((ns.map Sum.inl).zip vs) (Sum.inl m) v))) [a] := Stp.upd (by simp) (f2.env.nz a haF) (dic_nt hH)
  have rs1 : Reps X.K Z2 H2 (ds ++ [d]) (vs ++ [v]) [] := (rs.nils ims).app (Reps.cons rv2 .nil)
  have rep : Rep X.K Z2 (upd H2 a (.dK (putK ((ns.map Sum.inl).zip vs) (Sum.inl m) v))) (.dic ((ns ++ [m]).map Sum.inl) (ds ++ [d])) (.ref a) [a] := by
    refine .dic (vs := vs ++ [v]) ?_ (by rw [List.length_map, List.length_append, List.length_append]; rw [List.length_map] at hl; simp [hl]) (rs1.step s1 fun y hy => nomatch hy)
    rw [upd_same, putK_new hl nk, List.map_append]
    rfl
  obtain ⟨F', e2, s2⟩ := f2.env.chgN hE2 hv1 (.dic hH hl rs) hR hp List.mem_cons_self (dic_nt hH) (fun y hy => by rw [List.mem_singleton.mp hy]; exact List.mem_cons_self) (by simp) rep
  refine ⟨a, _, rfl, DPut.k (k := Sum.inl m) hH ?_, ?_⟩
  · rw [List.length_zip, List.length_map]
    exact Nat.lt_of_le_of_lt (Nat.le_trans (Nat.min_le_left _ _) hlen) (by decide)
  · exact hk' _ Z2 _ σ F' kk ⟨e2, e2.nd, (fun y hy => nomatch hy), f2.nil.st.trans s2, Pin.refl⟩
end
end DL

/-! any value frozen; {}, {0: None}; dict(list of pairs); frozen dicts read; calls with positional values and keywords; _law_caught whose work changes the state -/
namespace DL
open PySem PySem.Spec L2 LamX
variable [LamT]
open PyProof.Rows (envOfC)
section
variable {X : Cx} {n : List Nat} {E : EnvT} {k : Opd → EnvT → Prop} {pos : Pos} {e : Expr}
/-- a dict that will not change any more -/
theorem wo_freezeD (h : WO X e E fun o E1 => ∃ ks ds, o = .val (.dic ks ds) ∧ Imms ds ∧ k (.val (.fd ks ds)) E1) : WO X e E k := by
  intro Z H σ F Q he hk
  refine h Z H σ F Q he fun o E1 Z1 H1 F1 G v ⟨ks, ds, eo, im, q⟩ f r => ?_
  subst eo
  have r' : Rep X.K Z1 H1 (.dic ks ds) v G := r
  cases r' with
  | dic hl ll rs =>
    rename_i a vs Fd
    have ed := rs.imm im
    subst ed
    have aG : a ∉ F1 := fun q => (List.nodup_append.mp f.nd).2.2 a (by simp) a q rfl
    refine hk _ E1 (fun b => Z1 b ∨ b = a) H1 F1 [] _ q ⟨⟨f.env.r.kp ⟨fun _ z => .inl z, fun _ _ z => z, fun _ _ _ _ z => z, fun _ _ _ z => z⟩ fun _ _ _ _ z => z, f.env.nd, fun x hx z => ?_, fun x z => ?_, f.env.zt.tb⟩, f.env.nd, (fun x hx => nomatch hx), ?_⟩ (.fd ⟨.inr rfl, hl, ll⟩ (rs.kp ⟨fun _ z => .inl z, fun _ _ z => z, fun _ _ _ _ z => z, fun _ _ _ z => z⟩ fun x hx => nomatch hx))
    · rcases z with z | z
      · exact f.env.nz x hx z
      · exact aG (by rw [← z]; exact hx)
    · rcases z with z | z
      · exact f.env.zt.th x z
      · exact ⟨_, by rw [z]; exact hl, ntb_dK⟩
    · refine ⟨fun x z => .inl (f.st.z1 x z), fun x z => ?_, f.st.fr, f.st.tb, f.st.th, fun x hx => f.st.f2 x (List.mem_append_right _ hx), f.st.tu, f.st.fl, f.st.ft⟩
      rcases z with z | z
      · exact f.st.z2 x z
      · rw [z]
        exact .inr (f.st.f2 a (List.mem_append_left _ (by simp)))
/-- {} -/
theorem wo_dic0 (h : k (.val (.dic [] [])) E) : WO X (.Dict [] [] pos) E k := by
  intro Z H σ F Q he hk
  refine wpE_by pe_dnewK fun p hp0 => ?_
  have g : Grow H (upd H p (.dK [])) [p] := Grow.new hp0
  have pF : p ∉ F := fun q => by
    obtain ⟨o, e, _⟩ := he.r.mem p q
    rw [hp0] at e
    cases e
  refine hk _ E Z _ F [p] _ h ⟨⟨he.r.kp g.kp fun a _ o _ e => g.gr a o e, he.nd, he.nz, he.zt.gr g⟩, List.nodup_cons.mpr ⟨pF, he.nd⟩, fun x hx z => ?_, g.st⟩ (.dic (vs := []) (F := []) (by rw [upd_same]; rfl) rfl Reps.nil)
  rw [List.mem_singleton.mp hx] at z
  obtain ⟨o, e, _⟩ := he.zt.th p z
  rw [hp0] at e
  cases e
/-- {m: None} -/
theorem wo_dic3 {m : Int} {j1 j2 : Nat} {p1 p2 : Pos} (h : k (.val (.dic ([m].map Sum.inl) [.non])) E) : WO X (.Dict [some (.Constant (.int m) j1 p1)] [.Constant .none j2 p2] pos) E k := by
  intro Z H σ F Q he hk
  refine wpE_by (pe_disp (pps_cons pe_int pe_non pps_nil) rfl rfl (by simp) (Nat.le_of_ble_eq_true rfl)) fun p hp0 => ⟨upd_same, [(Sum.inl m, .non)], rfl, Nat.le_of_ble_eq_true rfl, ?_⟩
  have g : Grow H (upd (upd H p (.dK [])) p (.dK (mergeK [] [((Sum.inl m : Key), V.non)]))) [p] :=
    ⟨fun a u e => by rw [upd_ne (ne_of_none e hp0), upd_ne (ne_of_none e hp0)]; exact e, fun a ha => by rw [List.mem_singleton.mp ha]; exact hp0, by simp⟩
  have pF : p ∉ F := fun q => by
    obtain ⟨o, e, _⟩ := he.r.mem p q
    rw [hp0] at e
    cases e
  refine hk _ E Z _ F [p] _ h ⟨⟨he.r.kp g.kp fun a _ o _ e => g.gr a o e, he.nd, he.nz, he.zt.gr g⟩, List.nodup_cons.mpr ⟨pF, he.nd⟩, fun x hx z => ?_, g.st⟩ (.dic (vs := [.non]) (F := []) (by rw [upd_same]; rfl) rfl (Reps.cons .non .nil))
  rw [List.mem_singleton.mp hx] at z
  obtain ⟨o, e, _⟩ := he.zt.th p z
  rw [hp0] at e
  cases e
end

/-! ### dict(list of pairs) -/
def prI (p : Int × D) : D := .tup [.int p.1, p.2]
theorem paired_of {K : PySem.W.Frag} {Z : Addr → Prop} {H : Hp} : ∀ {ps : List (Int × D)} {vs : List V} {G : List Addr}, Reps K Z H (ps.map prI) vs G → (∀ p ∈ ps, Imm p.2) →
    ∃ (as : List Addr) (ws : List V), vs = as.map V.ref ∧ Paired (fun p kv => SqT K H p [kV kv.1, kv.2]) as ((ps.map fun p => (Sum.inl p.1 : Key)).zip ws) ∧ Reps K Z H (ps.map (·.2)) ws []
  | [], _, _, .nil, _ => ⟨[], [], rfl, .nil, .nil⟩
  | p :: ps, _, _, .cons r rs, im => by
    obtain ⟨as, ws, e, q, rr⟩ := paired_of rs fun x hx => im x (List.mem_cons_of_mem _ hx)
    subst e
    cases r with
    | tup hs r2 =>
      cases r2 with
      | cons r3 r4 =>
        cases r3
        cases r4 with
        | cons r5 r6 =>
          cases r6
          have r7 := r5.nils (im p List.mem_cons_self)
          exact ⟨_ :: as, _ :: ws, rfl, .cons hs q, .cons (F := []) (G := []) r7 rr⟩
section
variable {X : Cx} {E : EnvT} {k : Opd → EnvT → Prop} {pos p : Pos} {a : Expr}
theorem wo_dictP (hc : X.calm = true) (hg : Gl X "dict") (hm : X.mg "dict" = none) (h : WO X a E fun o E1 => ∃ (d : D) (ps : List (Int × D)), o.get E1 = some d ∧ d.lseq = some (ps.map prI) ∧ (∀ q ∈ ps, Imm q.2) ∧ (ps.map (·.1)).Nodup ∧ k (.val (.dic ((ps.map (·.1)).map Sum.inl) (ps.map (·.2)))) E1)
    (hs : starEach [a] X.env = (false, eval a X.env) :: starEach [] X.env := by rfl) : WO X (.Call (.Name "dict" p) [a] [] pos) E k :=
  wo_b1 (pe_callTy (call_dictP hc) hg hm (by decide +kernel) pa_w (he := hs)) (WO.mono h fun o E1 ⟨d1, ps, g1, g2, im, nd, kk⟩ => by
    refine ⟨d1, g1, _, fun Z H v G rv => GivesP.one fun Q q => ?_, fun d e => by rw [e]; exact kk⟩
    obtain ⟨x, vs, G', rfl, hs, rs⟩ := rv.lseq g2
    obtain ⟨as, ws, e, q2, r2⟩ := paired_of rs im
    subst e
    refine ⟨x, as, _, rfl, hs, q2, fun l hl => ?_⟩
    have hlen := r2.len
    have e1 : ps.map (fun p => (Sum.inl p.1 : Key)) = (ps.map (·.1)).map Sum.inl := by rw [List.map_map]; rfl
    have ndk : (((ps.map fun p => (Sum.inl p.1 : Key)).zip ws).map (·.1)).Nodup := by
      rw [List.map_fst_zip (by rw [List.length_map] at hlen ⊢; omega), e1]
      exact List.pairwise_map.mpr (List.Pairwise.imp (fun {a b} h e => h (Sum.inl.inj e)) nd)
    rw [mergeK_new (fun p hp => rfl) ndk, List.nil_append, e1]
    exact q _ _ [l] (.dic upd_same (by rw [List.length_map, List.length_map]; rw [List.length_map] at hlen; exact hlen) (r2.grow (Grow.new hl))) (Grow.new hl)) hs
/-- a frozen dict's keys -/
theorem cmp_inFd {ns : List Int} {ds : List D} {m : Int} (hu : X.A.units + 1 < cLine) : CmpD X .In (.int m) (.fd (ns.map Sum.inl) ds) (decide (m ∈ ns)) := .mk (op_inD hu) fun Z H v1 v2 G1 G2 r1 r2 Q q => by
  cases r1
  cases r2 with
  | fd e rs =>
    refine ⟨_, _, rfl, DGet.k (k := Sum.inl m) e.2.1, ?_⟩
    rw [valV_mem e.2.2]
    exact q _ H [] (.bl _) Grow.refl
theorem cmp_niFd {ns : List Int} {ds : List D} {m : Int} (hu : X.A.units + 1 < cLine) : CmpD X .NotIn (.int m) (.fd (ns.map Sum.inl) ds) (!decide (m ∈ ns)) := .mk (op_niD hu) fun Z H v1 v2 G1 G2 r1 r2 Q q => by
  cases r1
  cases r2 with
  | fd e rs =>
    refine ⟨_, _, rfl, DGet.k (k := Sum.inl m) e.2.1, ?_⟩
    rw [valV_mem e.2.2]
    exact q _ H [] (.bl _) Grow.refl
/-- x[e], a frozen dict -/
theorem wo_fdget {i : Nat} {x : Str} {e : Expr} {keys0 : List Key} {ds0 : List D} (hu : X.A.units + 1 < cLine) (hN : X.N[i]? = some x) (hE : E[i]? = some (some (.fd keys0 ds0))) (hs : NoSl e)
    (h : WO X e E fun o E1 => ∃ (m : Int) (j : Nat) (d : D), o.get E1 = some (.int m) ∧ keys0.Nodup ∧ keys0[j]? = some (.inl m) ∧ ds0[j]? = some d ∧ k (.val d) E1)
    (hv : Vis X.env.scope x) (hdb : (x == ("__debug__" : Str)) = false) (hcd : (x == ("__classdict__" : Str)) = false) :
    WO X (.Subscript (.Name x p) e pos) E k := by
  intro Z H σ F Q he hk'
  obtain ⟨v, G0, R0, h1, h2, h3, h4⟩ := he.r.get hE
  cases h2 with
  | fd e0 rs0 =>
    rename_i a vs
    refine wpE_by (pe_dget hu (pe_var hN hv hdb hcd) pe_w hs) ⟨_, h1, h Z H σ F _ he fun o E1 Z1 H1 F1 G1 w ⟨m, j, d, g, hk, hj, hd, kk⟩ f r1 => ?_⟩
    obtain ⟨Gj, rj, _⟩ := r1.use f.env g
    cases rj
    have hH : H1 a = some (.dK (keys0.zip vs)) := f.st.fl _ _ e0.1 ntb_dK e0.2.1
    have rs1 : Reps X.K Z1 H1 ds0 vs [] := rs0.step f.st fun _ q => nomatch q
    obtain ⟨v, G', hvj, rv, sl⟩ := rs1.get hd
    have gk := DGet.k (k := Sum.inl m) hH
    rw [valV_zip hk hj hvj] at gk
    have eg : G' = [] := List.sublist_nil.mp sl
    subst eg
    exact ⟨_, v, rfl, gk, hk' _ E1 Z1 H1 F1 [] v kk f.nil rv⟩
end

/-! ### f(e, .., k = v, ..) -/
section
variable {X : Cx} {E : EnvT} {kk : Opd → EnvT → Prop} {e : Expr} {es : List Expr} {kws : List Keyword} {S : Ct} {x : Str} {k j n : Nat} {p pos : Pos} {ks : List Str} {pm : List Nat}
end

/-! ### _law_caught(lambda: ..), the work changes what is owned; that is forgotten behind it -/
section
variable {X : Cx} {E E0 : EnvT} {k : Opd → EnvT → Prop}
end
end DL

/-! heads: facts of error classes; the promise of a law whose def holds lambdas -/
namespace DL
open PySem PySem.Spec L2
variable [LamT]
open PyProof.Rows (envOfC)
def eqB (a b : Option Bool) : Bool := decide (a = b)
/-- what isinstance asks of an error class -/
def excB (K : PySem.W.Frag) (x : Str) : Bool :=
  He.eqO (PySem.W.findIn K (.ref (He.ga K x)) "__getattribute__") (some (some (.builtin "BaseException.__getattribute__"))) && (He.eqO (PySem.W.findIn K (.ref (He.ga K x)) "__getattr__") (some none) && (eqB (PySem.W.subIn K (.ref (He.ga K x)) (.type "BaseException")) (some true) &&
    (PySem.W.hasDictIn K (He.ga K x) && (He.eqO (PySem.W.findIn K (.ref (He.ga K x)) "__class__") (some (some (.builtin "object.__class__"))) && (He.eqO (PySem.W.specialIn K (.builtin "object.__class__") "__get__") (some (some (.builtin "getset_descriptor.__get__"))) &&
      (eqB (PySem.W.takesIn K (.builtin "object.__class__")) (some true) && eqB (PySem.W.mroIn K (He.ga K x) (.type "object")) (some true)))))))
theorem excB_ok {K : PySem.W.Frag} {x : Str} (h : excB K x = true) : ExcC K (He.ga K x) := by
  obtain ⟨h1, h⟩ := He.ba h
  obtain ⟨h2, h⟩ := He.ba h
  obtain ⟨h3, h⟩ := He.ba h
  obtain ⟨h4, h⟩ := He.ba h
  obtain ⟨h5, h⟩ := He.ba h
  obtain ⟨h6, h⟩ := He.ba h
  obtain ⟨h7, h8⟩ := He.ba h
  exact ⟨He.eqO_ok h1, He.eqO_ok h2, of_decide_eq_true h3, h4, He.eqO_ok h5, He.eqO_ok h6, of_decide_eq_true h7, of_decide_eq_true h8⟩
section
variable {K : PySem.W.Frag} {h : Heap} {mg : Str → Option Value}
theorem exF_of (X : K.In h) (G : h.Ns mainGlobals mg) {x : Str} (c1 : (He.Fa.glo x).ok K = true) (c2 : (He.Fa.glo "CopyError").ok K = true) (c3 : (He.Fa.exc x).ok K = true) (c4 : (He.Fa.exm x "CopyError" true).ok K = true) : ExF K mg x := by
  obtain ⟨e1, e2, e3, e4⟩ := He.exc_ok c3
  exact ⟨_, _, He.glo_ok X G c1, He.glo_ok X G c2, e1, e2, e3, e4, He.exm_ok c4⟩
theorem exC_of (X : K.In h) (G : h.Ns mainGlobals mg) {x : Str} (c1 : (He.Fa.glo x).ok K = true) (c : excB K x = true) : ∀ C : Addr, mg x = some (.ref C) → ExcC K C := fun C hC => by
  have e := He.glo_ok X G c1
  rw [hC] at e
  cases e
  exact excB_ok c
end
/-- a def's code object, as LamAt wants it -/
theorem fnd_code {K : PySem.W.Frag} {x q : Str} {pa : Arguments} {b : List Stmt} {sc : Scope} {dvs : List V} {kws : List (Str × V)} {f : Addr} {fd : FuncData} (F : FunD K x q pa b sc dvs kws f fd) {p : He.Defn} (hf : f = He.fAd K p) : fd.code = .ref (He.codeOf K p) := by
  obtain ⟨oc, od, dV, kV, doc, pm, an, cdv, ct, osl, rfl, lk, hcd, _, _⟩ := F.ex
  obtain ⟨c, hc⟩ := He.codeIn_ref hcd
  subst hf
  rw [He.codeOf_eq lk (c := c) hc]
  exact hc
section
variable {P : Program} {w : World} {K : PySem.W.Frag} {mg : Str → Option Value} {base : Heap}
/-- a def keeps its promise, from its body; its code object is known -/
theorem fn_okL {x qual : Str} {st : Stmt} {dvs : List V} {kws : List (Str × V)} {f : Addr} {fd : FuncData} {N ps : List Str} {k pin : Nat} {S : Ct} (F : FunD K x qual (defArgs st) (defBody st) (defScope st) dvs kws f fd) (sc : FnScope N ps (defScope st))
    (hlen : ∀ a ds, S.pre a ds → ds.length = ps.length) (hpin : pin ≤ ps.length)
    (body : ∀ (A : Around) (outer : List Env) (s : Shared) (H : Hp) (E : XK), Room k (A.deeper (envOfC qual (defScope st) s.heap.objs.size f fd.code)) → ∀ (a : S.α) (ds : List D), S.pre a ds →
      (let X : Cx := (cxOf CX0 P w K mg base N qual (defScope st) f fd.code A outer s H E).nox
      WSs X (List.range pin) (defBody st) (ds.map some ++ List.replicate (N.length - ps.length) none)
        { nx := fun E' => ∃ ds', E'.take pin = ds'.map some ∧ S.post a .non ds', rt := fun d E' => ∃ ds', E'.take pin = ds'.map some ∧ S.post a d ds' })) : FnOk P w K mg base CX0 (k + 1) f fd ps (toSp K pin S) := by
  have ln : ∀ vs H Q E, toSp K pin S vs H Q E → vs.length = ps.length := fun vs H Q E ⟨Z, ds, F, r, _, _, _, a, pa, _⟩ => by rw [← r.len]; exact hlen a ds pa
  obtain ⟨oc, od, dV, kV, doc, pm, an, cdv, ct, osl, rfl, lk, hcd, _, _⟩ := F.ex
  refine fn_of lk hcd sc ln fun A outer s H vs Q E hr hsp => ?_
  have hl := ln _ _ _ _ hsp
  obtain ⟨Z, ds, F0, r, nd, nz, zt, a, pa, hq⟩ := hsp
  refine ⟨_, PSs.nox pss_w, ?_⟩
  have he : EnvS K Z H (ds.map some ++ List.replicate (N.length - ps.length) none) (start N vs) F0 := ⟨by
    have q := EnvR.start r (N.length - ps.length)
    unfold L2.start
    rw [hl]
    exact q, nd, nz, zt⟩
  have getv : ∀ {σ' : Sl}, Pin (List.range pin) (start N vs) σ' → ∀ i, i < pin → σ'[i]? = (vs.map some)[i]? := fun hpn i hi => by
    rw [hpn i (List.mem_range.mpr hi)]
    unfold L2.start
    rw [List.getElem?_append_left]
    rw [List.length_map, hl]
    omega
  refine body A outer s H E hr a ds pa Z H (start N vs) F0 _ he ⟨fun E' Z' H' σ' F' ⟨ds', e, po⟩ f => ?_, fun d v E' Z' H' σ' F' G ⟨ds', e, po⟩ f rv => ?_, fun _ _ _ _ _ q _ => q.elim, fun _ _ _ _ _ q _ => q.elim⟩
  · obtain ⟨F2, r2, s2⟩ := f.env.r.back pin vs ds' (by omega) (getv f.pin) e
    exact hq .non ds' po .non Z' H' [] F2 r2 .non (s2.nodup f.env.nd) (fun a ha => f.env.nz a (s2.subset ha)) f.env.zt (f.st.sub fun x hx => s2.subset hx)
  · obtain ⟨F2, r2, s2⟩ := f.env.r.back pin vs ds' (by omega) (getv f.pin) e
    refine hq d ds' po v Z' H' G F2 r2 rv ((List.Sublist.append_left s2 G).nodup f.nd) (fun a ha => ?_) f.env.zt (f.st.sub fun x hx => (List.Sublist.append_left s2 G).subset hx)
    rcases List.mem_append.mp ha with q | q
    · exact f.nz a q
    · exact f.env.nz a (s2.subset q)
end
theorem ntb_frzL {o : Obj} {vs : List V} : NTb (.frz o (.lst vs)) := fun ps z => nomatch z
end DL

/-! what is seen of what is seen is itself -/
namespace DL
open PySem PySem.Spec L2
variable [LamT]
def metT (h : Hea) (t : Nat) : List Int := (List.range t).foldl (stepM h) [0]
theorem metT_succ {h : Hea} {t : Nat} : metT h (t + 1) = stepM h (metT h t) t := by
  unfold metT
  rw [List.range_succ, List.foldl_append]
  rfl
theorem metT_all {h : Hea} : metT h h.length = metH h := rfl
theorem metT_stop {h : Hea} {t : Nat} (hl : (metT h t).length ≤ t) : ∀ d, metT h (t + d) = metT h t
  | 0 => rfl
  | d + 1 => by
    rw [← Nat.add_assoc, metT_succ, metT_stop hl d]
    exact if_neg (by omega)
def rng (n : Nat) : List Int := (List.range n).map Int.ofNat
theorem rng_len {n : Nat} : (rng n).length = n := by unfold rng; simp
theorem rng_get {n i : Nat} (h : i < n) : (rng n).getD i 0 = (i : Int) := by
  unfold rng
  rw [List.getD_eq_getElem?_getD, List.getElem?_map, List.getElem?_range h]
  rfl
end DL

/-! changes, deeds, stories in plain Lean -/
namespace DL
open PySem PySem.Spec L2
variable [LamT]
inductive Chg where
  | mk (r : Rec)
  | st (i j : Nat) (v : HV)
def mkS : Str := "make"
def seS : Str := "set"
def chgD : Chg → D
  | .mk r => .tup [.str mkS, recD r]
  | .st i j v => .tup [.str seS, .int i, .int j, hvD v]
def Chg.isM : Chg → Bool
  | .mk _ => true
  | .st _ _ _ => false
def Chg.ok (w m : Nat) : Chg → Prop
  | .mk r => r.length = w ∧ ∀ v ∈ r, v.ok (m + 1)
  | .st i j v => i < m ∧ j < w ∧ v.ok m
def Chg.nx (m : Nat) : Chg → Nat
  | .mk _ => m + 1
  | .st _ _ _ => m
def OkD (w : Nat) : Nat → List Chg → Prop
  | _, [] => True
  | m, c :: cs => c.ok w m ∧ OkD w (c.nx m) cs
def aft (m : Nat) (cs : List Chg) : Nat := cs.foldl Chg.nx m
theorem aft_add {m : Nat} {cs : List Chg} {c : Chg} : aft m (cs ++ [c]) = c.nx (aft m cs) := by
  unfold aft
  rw [List.foldl_append]
  rfl
theorem OkD.add {w : Nat} {c : Chg} : ∀ {cs : List Chg} {m : Nat}, OkD w m cs → c.ok w (aft m cs) → OkD w m (cs ++ [c])
  | [], _, _, h => ⟨h, trivial⟩
  | d :: cs, m, h, hc => ⟨h.1, OkD.add (cs := cs) h.2 hc⟩
theorem aft_count : ∀ {cs : List Chg} {m : Nat}, aft m cs = m + (cs.filter Chg.isM).length
  | [], _ => rfl
  | c :: cs, m => by
    show aft (c.nx m) cs = _
    rw [aft_count]
    cases c with
    | mk r => rw [List.filter_cons_of_pos rfl, List.length_cons]; show m + 1 + _ = _; omega
    | st i j v => rw [List.filter_cons_of_neg (by exact Bool.false_ne_true)]; rfl
theorem aft_le {cs : List Chg} {m : Nat} : aft m cs ≤ m + cs.length := by
  rw [aft_count]
  have := List.length_filter_le Chg.isM cs
  omega
theorem le_aft {cs : List Chg} {m : Nat} : m ≤ aft m cs := by
  rw [aft_count]
  omega
theorem imm_chg : ∀ c, Imm (chgD c)
  | .mk _ => ⟨trivial, imm_rec, trivial⟩
  | .st _ _ v => ⟨trivial, trivial, trivial, imm_hv v, trivial⟩
theorem imms_chg {cs : List Chg} : Imms (cs.map chgD) := imms_map fun c _ => imm_chg c
theorem HV.ok.mono {m n : Nat} {v : HV} (h : v.ok m) (hm : m ≤ n) : v.ok n := by
  cases v with
  | non => trivial
  | num i => exact h
  | ptr k => have h : k < m := h; show k < n; omega
/-- a heap behind a change -/
def doC (h : Hea) : Chg → Hea
  | .mk r => h ++ [r]
  | .st i j v => h.set i ((h.getD i []).set j v)
def doD (h : Hea) (cs : List Chg) : Hea := cs.foldl doC h
theorem doC_len {h : Hea} {c : Chg} : (doC h c).length = c.nx h.length := by
  cases c with
  | mk r => exact List.length_append ..
  | st i j v => exact List.length_set ..
theorem doC_wf {w : Nat} {h : Hea} {c : Chg} (wf : WfH w h) (hc : c.ok w h.length) (few : h.length + 1 ≤ 100000) : WfH w (doC h c) := by
  have hl := doC_len (h := h) (c := c)
  cases c with
  | mk r =>
    have hl : (h ++ [r]).length = h.length + 1 := hl
    refine ⟨wf.w1, wf.w6, by show 0 < (h ++ [r]).length; omega, by show (h ++ [r]).length ≤ 100000; omega, fun x hx => ?_, fun x hx v hv => ?_⟩
    · rcases List.mem_append.mp hx with q | q
      · exact wf.len x q
      · rw [List.mem_singleton.mp q]; exact hc.1
    · show v.ok (h ++ [r]).length
      rw [hl]
      rcases List.mem_append.mp hx with q | q
      · exact (wf.ok x q v hv).mono (Nat.le_succ _)
      · rw [List.mem_singleton.mp q] at hv; exact hc.2 v hv
  | st i j v =>
    have hl : (h.set i ((h.getD i []).set j v)).length = h.length := hl
    obtain ⟨hi, hj, hv⟩ := hc
    have hm : h.getD i [] ∈ h := by rw [List.getD_eq_getElem?_getD, List.getElem?_eq_getElem hi]; exact List.getElem_mem _
    have pos := wf.pos
    have few' := wf.few
    refine ⟨wf.w1, wf.w6, by show 0 < (h.set i ((h.getD i []).set j v)).length; omega, by show (h.set i ((h.getD i []).set j v)).length ≤ 100000; omega, fun x hx => ?_, fun x hx u hu => ?_⟩
    · rcases List.mem_or_eq_of_mem_set hx with q | q
      · exact wf.len x q
      · rw [q, List.length_set]; exact wf.len _ hm
    · show u.ok (h.set i ((h.getD i []).set j v)).length
      rw [hl]
      rcases List.mem_or_eq_of_mem_set hx with q | q
      · exact wf.ok x q u hu
      · rw [q] at hu
        rcases List.mem_or_eq_of_mem_set hu with z | z
        · exact wf.ok _ hm u z
        · rw [z]; exact hv
theorem doD_wf {w : Nat} : ∀ {cs : List Chg} {h : Hea}, WfH w h → OkD w h.length cs → h.length + cs.length ≤ 100000 → WfH w (doD h cs) ∧ (doD h cs).length = aft h.length cs
  | [], h, wf, _, _ => ⟨wf, rfl⟩
  | c :: cs, h, wf, ok, few => by
    rw [List.length_cons] at few
    have wf' := doC_wf wf ok.1 (by omega)
    have hl := doC_len (h := h) (c := c)
    have hx : c.nx h.length ≤ h.length + 1 := by
      cases c with
      | mk r => exact Nat.le_refl _
      | st i j v => exact Nat.le_succ _
    obtain ⟨h1, h2⟩ := doD_wf (cs := cs) (h := doC h c) wf' (by rw [hl]; exact ok.2) (by rw [hl]; omega)
    refine ⟨h1, ?_⟩
    show (doD (doC h c) cs).length = aft (c.nx h.length) cs
    rw [h2, hl]
/-! ### stories -/
abbrev Pr := Nat × List Chg
def prD (p : Pr) : D := .tup [.int p.1, .fz (p.2.map chgD)]
/-- the numbers of records of all versions -/
def szs (ps : List Pr) : List Nat := ps.foldl (fun s p => s ++ [aft (s.getD p.1 0) p.2]) [1]
def StO (w b : Nat) (ps : List Pr) : Prop := ∀ j p, ps[j]? = some p → p.1 ≤ j ∧ p.2.length ≤ b ∧ OkD w ((szs (ps.take j)).getD p.1 0) p.2
theorem szs_add {ps : List Pr} {p : Pr} : szs (ps ++ [p]) = szs ps ++ [aft ((szs ps).getD p.1 0) p.2] := by
  unfold szs
  rw [List.foldl_append]
  rfl
theorem szs_len {ps : List Pr} : (szs ps).length = ps.length + 1 := by
  suffices h : ∀ (ps : List Pr) (s : List Nat), (ps.foldl (fun s p => s ++ [aft (s.getD p.1 0) p.2]) s).length = s.length + ps.length by
    have := h ps [1]
    simp only [List.length_singleton] at this
    unfold szs
    omega
  intro ps
  induction ps with
  | nil => intro s; rfl
  | cons p ps ih =>
    intro s
    rw [List.foldl_cons, ih]
    simp only [List.length_append, List.length_cons, List.length_nil]
    omega
theorem StO.add {w b : Nat} {ps : List Pr} {p : Pr} (h : StO w b ps) (h1 : p.1 ≤ ps.length) (h2 : p.2.length ≤ b) (h3 : OkD w ((szs ps).getD p.1 0) p.2) : StO w b (ps ++ [p]) := by
  intro j q hq
  by_cases c : j < ps.length
  · rw [List.getElem?_append_left c] at hq
    have := h j q hq
    rw [List.take_append_of_le_length (Nat.le_of_lt c)]
    exact this
  · have hj : j < (ps ++ [p]).length := (List.getElem?_eq_some_iff.mp hq).1
    rw [List.length_append, List.length_singleton] at hj
    have e : j = ps.length := by omega
    subst e
    rw [List.getElem?_append_right (Nat.le_refl _), Nat.sub_self] at hq
    cases (Option.some.inj hq : p = q)
    rw [List.take_left]
    exact ⟨h1, h2, h3⟩
theorem StO.nil {w b : Nat} : StO w b [] := fun j p h => nomatch h
/-- the heaps of all versions -/
def heas (w : Nat) (ps : List Pr) : List Hea := ps.foldl (fun s p => s ++ [doD (s.getD p.1 []) p.2]) [[List.replicate w .non]]
theorem heas_add {w : Nat} {ps : List Pr} {p : Pr} : heas w (ps ++ [p]) = heas w ps ++ [doD ((heas w ps).getD p.1 []) p.2] := by
  unfold heas
  rw [List.foldl_append]
  rfl
theorem bare_wf {w : Nat} (h1 : 1 ≤ w) (h6 : w ≤ 6) : WfH w [List.replicate w .non] := ⟨h1, h6, Nat.one_pos, (by show 1 ≤ 100000; omega), fun r hr => by
  rw [List.mem_singleton.mp hr, List.length_replicate], fun r hr v hv => by
  rw [List.mem_singleton.mp hr] at hv
  rw [(List.mem_replicate.mp hv).2]
  trivial⟩
/-- all of them are heaps, of the told sizes -/
theorem heas_wf {w b : Nat} (h1 : 1 ≤ w) (h6 : w ≤ 6) : ∀ (m : Nat) {ps : List Pr}, ps.length = m → StO w b ps → 1 + b * m ≤ 1000 → (heas w ps).length = m + 1 ∧ ∀ (i : Nat) (h : Hea), (heas w ps)[i]? = some h → WfH w h ∧ (szs ps)[i]? = some h.length ∧ h.length ≤ 1 + b * m
  | 0, ps, hl, _, _ => by
    cases List.eq_nil_of_length_eq_zero hl
    refine ⟨rfl, fun i h e => ?_⟩
    cases i with
    | zero =>
      cases (Option.some.inj e : [List.replicate w .non] = h)
      exact ⟨bare_wf h1 h6, rfl, by simp⟩
    | succ i => exact nomatch e
  | m + 1, ps, hl, ok, hb => by
    have hne : ps ≠ [] := fun e => by rw [e] at hl; exact nomatch hl
    obtain ⟨qs, p, rfl⟩ : ∃ qs p, ps = qs ++ [p] := ⟨ps.dropLast, ps.getLast hne, (List.dropLast_concat_getLast hne).symm⟩
    have hq : qs.length = m := by rw [List.length_append, List.length_singleton] at hl; omega
    have okq : StO w b qs := fun j q e => by
      have lt := (List.getElem?_eq_some_iff.mp e).1
      have z := ok j q (by rw [List.getElem?_append_left lt]; exact e)
      rw [List.take_append_of_le_length (Nat.le_of_lt lt)] at z
      exact z
    have hb2 : b * (m + 1) = b * m + b := Nat.mul_succ b m
    obtain ⟨i1, i2⟩ := heas_wf h1 h6 m hq okq (by omega)
    obtain ⟨p1, p2, p3⟩ := ok qs.length p (by rw [List.getElem?_append_right (Nat.le_refl _), Nat.sub_self]; rfl)
    rw [List.take_left] at p3
    obtain ⟨g, eg⟩ : ∃ g, (heas w qs)[p.1]? = some g := ⟨_, List.getElem?_eq_getElem (by omega)⟩
    obtain ⟨w1, w2, w3⟩ := i2 p.1 g eg
    have egd : (heas w qs).getD p.1 [] = g := by rw [List.getD_eq_getElem?_getD, eg]; rfl
    have esd : (szs qs).getD p.1 0 = g.length := by rw [List.getD_eq_getElem?_getD, w2]; rfl
    rw [esd] at p3
    obtain ⟨d1, d2⟩ := doD_wf w1 p3 (by omega)
    have al := aft_le (cs := p.2) (m := g.length)
    refine ⟨by rw [heas_add, List.length_append, i1]; rfl, fun i h e => ?_⟩
    rw [heas_add, egd] at e
    rw [szs_add, esd]
    have ls := szs_len (ps := qs)
    by_cases c : i < m + 1
    · rw [List.getElem?_append_left (by omega)] at e
      rw [List.getElem?_append_left (by omega)]
      obtain ⟨a1, a2, a3⟩ := i2 i h e
      exact ⟨a1, a2, by omega⟩
    · have hi := (List.getElem?_eq_some_iff.mp e).1
      rw [List.length_append, List.length_singleton] at hi
      have ei : i = m + 1 := by omega
      subst ei
      rw [List.getElem?_append_right (by omega), i1, Nat.sub_self] at e
      cases (Option.some.inj e : doD g p.2 = h)
      rw [List.getElem?_append_right (by omega), ls, hq, Nat.sub_self]
      exact ⟨d1, by rw [d2]; rfl, by omega⟩
end DL

/-! more of deeds: what is frozen, sizes -/
namespace DL
open PySem PySem.Spec L2
variable [LamT]
theorem frzs_map {α : Type} {f : α → D} : ∀ {xs : List α}, frzs (xs.map f) = xs.map fun x => frz (f x)
  | [] => rfl
  | x :: xs => by
    show frz (f x) :: frzs (xs.map f) = _
    rw [frzs_map]
    rfl
theorem canFs_map {α : Type} {f : α → D} : ∀ {xs : List α}, (∀ x ∈ xs, canF (f x) = true) → canFs (xs.map f) = true
  | [], _ => rfl
  | x :: xs, h => by
    show (canF (f x) && canFs (xs.map f)) = true
    rw [h x List.mem_cons_self, canFs_map fun y hy => h y (List.mem_cons_of_mem _ hy)]
    rfl
theorem frz_hv : ∀ {v : HV}, frz (hvD v) = hvD v
  | .non => rfl
  | .num _ => rfl
  | .ptr _ => rfl
theorem canF_hv : ∀ {v : HV}, canF (hvD v) = true
  | .non => rfl
  | .num _ => rfl
  | .ptr _ => rfl
theorem canFs_hv {r : Rec} : canFs (r.map hvD) = true := canFs_map fun _ _ => canF_hv
theorem frzs_hv {r : Rec} : frzs (r.map hvD) = r.map hvD := by
  rw [frzs_map]
  exact List.map_congr_left fun _ _ => frz_hv
theorem canF_rec {r : Rec} : canF (recD r) = true := canFs_hv
theorem frz_rec {r : Rec} : frz (recD r) = recD r := by
  show D.tup (frzs (r.map hvD)) = _
  rw [frzs_hv]
  rfl
theorem canF_chg : ∀ {c : Chg}, canF (chgD c) = true
  | .mk r => by
    show (true && (canF (recD r) && true)) = true
    rw [canF_rec]
    rfl
  | .st _ _ v => by
    show (true && (true && (true && (canF (hvD v) && true)))) = true
    rw [canF_hv]
    rfl
theorem frz_chg : ∀ {c : Chg}, frz (chgD c) = chgD c
  | .mk r => by
    show D.tup [.str mkS, frz (recD r)] = _
    rw [frz_rec]
    rfl
  | .st i j v => by
    show D.tup [.str seS, .int i, .int j, frz (hvD v)] = _
    rw [frz_hv]
    rfl
theorem canFs_chg {cs : List Chg} : canF (.lst (cs.map chgD)) = true := canFs_map fun _ _ => canF_chg
theorem frz_chgs {cs : List Chg} : frz (.lst (cs.map chgD)) = .fz (cs.map chgD) := by
  show D.fz (frzs (cs.map chgD)) = _
  rw [frzs_map]
  exact congrArg D.fz (List.map_congr_left fun _ _ => frz_chg)
def lrec (r : Rec) : D := .lst (r.map hvD)
theorem canFs_lrec {h : Hea} : canF (.lst (h.map lrec)) = true := canFs_map fun _ _ => canFs_hv
theorem frz_lrec {h : Hea} : frz (.lst (h.map lrec)) = .fz (h.map fun r => D.fz (r.map hvD)) := by
  show D.fz (frzs (h.map lrec)) = _
  rw [frzs_map]
  refine congrArg D.fz (List.map_congr_left fun r _ => ?_)
  show D.fz (frzs (r.map hvD)) = _
  rw [frzs_hv]
def szI (ps : List Pr) : List Int := (szs ps).map Int.ofNat
theorem szI_add {ps : List Pr} {p : Pr} : szI (ps ++ [p]) = szI ps ++ [((aft ((szs ps).getD p.1 0) p.2 : Nat) : Int)] := by
  unfold szI
  rw [szs_add, List.map_append]
  rfl
theorem szI_len {ps : List Pr} : (szI ps).length = ps.length + 1 := by
  unfold szI
  rw [List.length_map, szs_len]
theorem szI_at {ps : List Pr} {i : Nat} (h : i < ps.length + 1) : (szI ps)[i]? = some (((szs ps).getD i 0 : Nat) : Int) := by
  unfold szI
  rw [List.getElem?_map, List.getD_eq_getElem?_getD, List.getElem?_eq_getElem (by rw [szs_len]; exact h)]
  rfl
theorem okd_at {w : Nat} : ∀ {cs : List Chg} {m j : Nat} {c : Chg}, OkD w m cs → cs[j]? = some c → OkD w m (cs.take j) ∧ c.ok w (aft m (cs.take j))
  | [], _, _, _, _, h => nomatch h
  | d :: cs, m, 0, c, ok, h => by
    cases (Option.some.inj h : d = c)
    exact ⟨trivial, ok.1⟩
  | d :: cs, m, j + 1, c, ok, h => by
    obtain ⟨a, b⟩ := okd_at (cs := cs) ok.2 (by simpa using h)
    exact ⟨⟨ok.1, a⟩, b⟩
/-- sizes are small -/
theorem szs_le {w b : Nat} : ∀ (m : Nat) {ps : List Pr}, ps.length = m → StO w b ps → ∀ i, i < m + 1 → 1 ≤ (szs ps).getD i 0 ∧ (szs ps).getD i 0 ≤ 1 + b * m
  | 0, ps, hl, _, i, hi => by
    cases List.eq_nil_of_length_eq_zero hl
    cases (show i = 0 by omega)
    exact ⟨Nat.le_refl _, by show 1 ≤ _; omega⟩
  | m + 1, ps, hl, ok, i, hi => by
    have hne : ps ≠ [] := fun e => by rw [e] at hl; exact nomatch hl
    obtain ⟨qs, p, rfl⟩ : ∃ qs p, ps = qs ++ [p] := ⟨ps.dropLast, ps.getLast hne, (List.dropLast_concat_getLast hne).symm⟩
    have hq : qs.length = m := by rw [List.length_append, List.length_singleton] at hl; omega
    have okq : StO w b qs := fun j q e => by
      have lt := (List.getElem?_eq_some_iff.mp e).1
      have z := ok j q (by rw [List.getElem?_append_left lt]; exact e)
      rw [List.take_append_of_le_length (Nat.le_of_lt lt)] at z
      exact z
    have hb2 : b * (m + 1) = b * m + b := Nat.mul_succ b m
    have ih := szs_le m hq okq
    obtain ⟨p1, p2, p3⟩ := ok qs.length p (by rw [List.getElem?_append_right (Nat.le_refl _), Nat.sub_self]; rfl)
    have ls := szs_len (ps := qs)
    rw [szs_add, List.getD_eq_getElem?_getD]
    by_cases c : i < m + 1
    · rw [List.getElem?_append_left (by omega), ← List.getD_eq_getElem?_getD]
      have := ih i c
      omega
    · have ei : i = m + 1 := by omega
      subst ei
      rw [List.getElem?_append_right (by omega), ls, hq, Nat.sub_self]
      show 1 ≤ aft ((szs qs).getD p.1 0) p.2 ∧ aft ((szs qs).getD p.1 0) p.2 ≤ _
      have a1 := aft_le (cs := p.2) (m := (szs qs).getD p.1 0)
      have a2 := le_aft (cs := p.2) (m := (szs qs).getD p.1 0)
      have := ih p.1 (by omega)
      omega
end DL

/-! heaps compared -/
namespace DL
open PySem PySem.Spec L2
variable [LamT]
theorem deqs_map {α : Type} [DecidableEq α] {f : α → D} (h : ∀ x y, deq (f x) (f y) = decide (x = y)) : ∀ {xs ys : List α}, deqs (xs.map f) (ys.map f) = decide (xs = ys)
  | [], [] => deqs_nil
  | [], y :: ys => by
    rw [decide_eq_false (by simp)]
    exact deqs_nc
  | x :: xs, [] => by
    rw [decide_eq_false (by simp)]
    exact deqs_cn
  | x :: xs, y :: ys => by
    rw [List.map_cons, List.map_cons, deqs_cons, h, deqs_map h, Bool.eq_iff_iff]
    simp
theorem deq_strs {x y : Str} : deq (.str x) (.str y) = decide (x = y) := by
  have e : deq (.str x) (.str y) = (x == y) := by simp [deq, toPy, PyData.eqv]
  rw [e]
  exact Bool.eq_iff_iff.mpr ⟨fun h => decide_eq_true (eq_of_beq h), fun h => by rw [of_decide_eq_true h]; exact beq_self_eq_true y⟩
theorem deq_hv : ∀ x y : HV, deq (hvD x) (hvD y) = decide (x = y)
  | .non, .non => by simp [hvD, deq, toPy, PyData.eqv]
  | .non, .num _ => by rw [decide_eq_false (by intro e; cases e)]; simp [hvD, deq, toPy, PyData.eqv]
  | .non, .ptr _ => by rw [decide_eq_false (by intro e; cases e)]; simp [hvD, deq, toPy, PyData.eqv]
  | .num _, .non => by rw [decide_eq_false (by intro e; cases e)]; simp [hvD, deq, toPy, PyData.eqv]
  | .num i, .num j => by
    show deq (.int i) (.int j) = _
    rw [deq_int, Bool.eq_iff_iff]
    simp
  | .num _, .ptr _ => by rw [decide_eq_false (by intro e; cases e)]; simp [hvD, deq, toPy, PyData.eqv]
  | .ptr _, .non => by rw [decide_eq_false (by intro e; cases e)]; simp [hvD, deq, toPy, PyData.eqv]
  | .ptr _, .num _ => by rw [decide_eq_false (by intro e; cases e)]; simp [hvD, deq, toPy, PyData.eqv]
  | .ptr n, .ptr m => by
    show deq (.tup [.str toS, .int n]) (.tup [.str toS, .int m]) = _
    rw [deq_tt rfl rfl, deqs_cons, deqs_cons, deqs_nil, deq_strs, deq_int, Bool.eq_iff_iff]
    simp
    omega
theorem deq_rec {x y : Rec} : deq (recD x) (recD y) = decide (x = y) := by
  show deq (.tup (x.map hvD)) (.tup (y.map hvD)) = _
  rw [deq_tt rfl rfl]
  exact deqs_map deq_hv
theorem deq_hea {x y : Hea} : deq (heaD x) (heaD y) = decide (x = y) := by
  show deq (.tup (x.map recD)) (.tup (y.map recD)) = _
  rw [deq_tt rfl rfl]
  exact deqs_map fun _ _ => deq_rec
theorem shpN_s {n : Nat} {x : Str} (h : PyData.strOk x = true) : ShpN n (.str x) := ⟨by simp [toPy, PyData.canLay0, h], by simp [toPy, PyData.depth]⟩
theorem shpN_v : ∀ v, ShpN 1 (hvD v)
  | .non => shpN_non
  | .num _ => shpN_int
  | .ptr _ => shpN_tup fun d hd => by
    rcases List.mem_cons.mp hd with q | q
    · rw [q]; exact shpN_s (by decide +kernel)
    · rw [List.mem_singleton.mp q]; exact shpN_int
theorem shpN_rec {r : Rec} : ShpN 2 (recD r) := shpN_tup fun d hd => by
  obtain ⟨v, _, rfl⟩ := List.mem_map.mp hd
  exact shpN_v v
theorem shp_hea {h : Hea} : Shp (heaD h) := ShpN.shp (n := 3) (shpN_tup fun d hd => by
  obtain ⟨r, _, rfl⟩ := List.mem_map.mp hd
  exact shpN_rec) (by decide)
section
variable {X : Cx}
theorem cmp_eqHea {x y : Hea} (hu : X.A.units + 64 < cLine) : CmpD X .Eq (heaD x) (heaD y) (decide (x = y)) := by
  have h := cmp_eq (X := X) hu (shp_hea (h := x)) (shp_hea (h := y))
  rw [deq_hea] at h
  exact h
end
end DL

/-! any values: what the checks of the package and of the laws tell of them; promises -/
namespace DL
open PySem PySem.Spec L2 Ln
variable [LamT]
mutual
/-- a value that owns nothing, of a kind that is looked at; no sequence in it is longer than n -/
def Pln (n : Nat) : D → Prop
  | .non => True
  | .bl _ => True
  | .int _ => True
  | .str _ => True
  | .tup ds => ds.length ≤ n ∧ Plns n ds
  | .fz ds => ds.length ≤ n ∧ Plns n ds
  | .fd _ _ => True
  | .pt _ => False
  | .lst _ => False
  | .dic _ _ => False
  | .obj _ _ _ => False
  | .op _ => False
  | .exc _ => False
  | .exd _ _ => False
  | .ow _ _ => False
  | .fw _ => False
  | .fo _ _ _ => False
def Plns (n : Nat) : List D → Prop
  | [] => True
  | d :: ds => Pln n d ∧ Plns n ds
end
theorem plns_iff {n : Nat} : ∀ {ds : List D}, Plns n ds ↔ ∀ d ∈ ds, Pln n d
  | [] => by simp [Plns]
  | d :: ds => by
    have ih := plns_iff (n := n) (ds := ds)
    simp [Plns, ih]
mutual
theorem Pln.imm {n : Nat} : ∀ {d : D}, Pln n d → Imm d
  | .non, _ => trivial
  | .bl _, _ => trivial
  | .int _, _ => trivial
  | .str _, _ => trivial
  | .tup ds, h => Plns.imms (show ds.length ≤ n ∧ Plns n ds from h).2
  | .fz ds, _ => trivial
  | .fd _ _, _ => trivial
  | .pt _, h => h.elim
  | .lst _, h => h.elim
  | .dic _ _, h => h.elim
  | .obj _ _ _, h => h.elim
  | .op _, h => h.elim
  | .exc _, h => h.elim
  | .exd _ _, h => h.elim
  | .ow _ _, h => h.elim
  | .fw _, h => h.elim
  | .fo _ _ _, h => h.elim
theorem Plns.imms {n : Nat} : ∀ {ds : List D}, Plns n ds → Imms ds
  | [], _ => trivial
  | d :: ds, h => ⟨Pln.imm h.1, Plns.imms h.2⟩
end
mutual
theorem Pln.mono {n m : Nat} (l : n ≤ m) : ∀ {d : D}, Pln n d → Pln m d
  | .non, _ => trivial
  | .bl _, _ => trivial
  | .int _, _ => trivial
  | .str _, _ => trivial
  | .tup ds, h => ⟨Nat.le_trans (show ds.length ≤ n ∧ Plns n ds from h).1 l, Plns.mono l (show ds.length ≤ n ∧ Plns n ds from h).2⟩
  | .fz ds, h => ⟨Nat.le_trans (show ds.length ≤ n ∧ Plns n ds from h).1 l, Plns.mono l (show ds.length ≤ n ∧ Plns n ds from h).2⟩
  | .fd _ _, _ => trivial
  | .pt _, h => h.elim
  | .lst _, h => h.elim
  | .dic _ _, h => h.elim
  | .obj _ _ _, h => h.elim
  | .op _, h => h.elim
  | .exc _, h => h.elim
  | .exd _ _, h => h.elim
  | .ow _ _, h => h.elim
  | .fw _, h => h.elim
  | .fo _ _ _, h => h.elim
theorem Plns.mono {n m : Nat} (l : n ≤ m) : ∀ {ds : List D}, Plns n ds → Plns m ds
  | [], _ => trivial
  | d :: ds, h => ⟨Pln.mono l h.1, Plns.mono l h.2⟩
end
theorem pln_hv {n : Nat} (h : 2 ≤ n) : ∀ v, Pln n (hvD v)
  | .non => trivial
  | .num _ => trivial
  | .ptr _ => ⟨h, trivial, trivial, trivial⟩
theorem plns_map {n : Nat} {α : Type} {f : α → D} {xs : List α} (h : ∀ x ∈ xs, Pln n (f x)) : Plns n (xs.map f) := plns_iff.mpr fun d hd => by
  obtain ⟨x, hx, rfl⟩ := List.mem_map.mp hd
  exact h x hx
theorem plns_app {n : Nat} {xs ys : List D} (a : Plns n xs) (b : Plns n ys) : Plns n (xs ++ ys) := plns_iff.mpr fun d hd => (List.mem_append.mp hd).elim (plns_iff.mp a d) (plns_iff.mp b d)
theorem plns_sub {n : Nat} {xs ys : List D} (b : Plns n ys) (h : ∀ d ∈ xs, d ∈ ys) : Plns n xs := plns_iff.mpr fun d hd => plns_iff.mp b d (h d hd)

mutual
/-- how deep tuples lie in tuples -/
def dep : D → Nat
  | .tup ds => 1 + deps ds
  | _ => 0
def deps : List D → Nat
  | [] => 0
  | d :: ds => max (dep d) (deps ds)
end
theorem deps_mem : ∀ {ds : List D} {d : D}, d ∈ ds → dep d ≤ deps ds
  | e :: ds, d, h => by
    rw [deps]
    rcases List.mem_cons.mp h with q | q
    · rw [q]; exact Nat.le_max_left _ _
    · exact Nat.le_trans (deps_mem q) (Nat.le_max_right _ _)
theorem deps_le {n : Nat} : ∀ {ds : List D}, (∀ d ∈ ds, dep d ≤ n) → deps ds ≤ n
  | [], _ => Nat.zero_le _
  | e :: ds, h => by
    rw [deps]
    exact Nat.max_le.mpr ⟨h e List.mem_cons_self, deps_le fun d hd => h d (List.mem_cons_of_mem _ hd)⟩

/-! ### what the checks tell -/
/-- a whole number of at most eighteen digits, of any value -/
def isW : D → Bool
  | .int i => decide (-1000000000000000000 < i ∧ i < 1000000000000000000)
  | _ => false
/-- an int -/
def isI : D → Bool
  | .int _ => true
  | _ => false
/-- a number from l on -/
def isN (d : D) (l : Int) : Bool := match d with
  | .int i => isW (.int i) && decide (l ≤ i)
  | _ => false
/-- a pointer -/
def two (f : D → D → Bool) : D → Bool
  | .tup [a, b] => f a b
  | _ => false
def isTo : D → Bool
  | .str x => decide (x = toS)
  | _ => false
def isPtr : D → Bool := two fun a e => isTo a && isN e 0
/-! ### shapes -/
theorem shpN_parts {n : Nat} : ∀ {ds : List D}, PyData.canLayAll0 (toPys ds) = true → PyData.depthAll (toPys ds) ≤ n → ∀ d ∈ ds, ShpN n d
  | [], _, _, d, h => nomatch h
  | e :: ds, h1, h2, d, h => by
    rw [toPys, PyData.canLayAll0, Bool.and_eq_true] at h1
    rw [toPys, PyData.depthAll] at h2
    rcases List.mem_cons.mp h with q | q
    · rw [q]; exact ⟨h1.1, Nat.le_trans (Nat.le_max_left _ _) h2⟩
    · exact shpN_parts h1.2 (Nat.le_trans (Nat.le_max_right _ _) h2) d q
theorem ShpN.items {n : Nat} {ds : List D} (h : ShpN (n + 1) (.tup ds)) : ∀ d ∈ ds, ShpN n d := by
  have h1 := h.1
  have h2 := h.2
  rw [toPy, PyData.canLay0] at h1
  rw [toPy, PyData.depth] at h2
  exact shpN_parts h1 (by omega)
theorem ShpN.mono {n m : Nat} {d : D} (h : ShpN n d) (l : n ≤ m) : ShpN m d := ⟨h.1, Nat.le_trans h.2 l⟩
/-! ### classes of built-in values -/
theorem kit_si : kitB "str" "int" = some false := by decide +kernel
theorem kit_li : kitB "list" "int" = some false := by decide +kernel
theorem kit_di : kitB "dict" "int" = some false := by decide +kernel
theorem kit_ni : kitB "NoneType" "int" = some false := by decide +kernel
theorem kit_bt : kitB "bool" "tuple" = some false := by decide +kernel
theorem kit_st : kitB "str" "tuple" = some false := by decide +kernel
theorem kit_lt : kitB "list" "tuple" = some false := by decide +kernel
theorem kit_dt : kitB "dict" "tuple" = some false := by decide +kernel
theorem kit_nt : kitB "NoneType" "tuple" = some false := by decide +kernel
theorem kit_is : kitB "int" "str" = some false := by decide +kernel
theorem kit_bs : kitB "bool" "str" = some false := by decide +kernel
theorem kit_ts : kitB "tuple" "str" = some false := by decide +kernel
theorem kit_ls : kitB "list" "str" = some false := by decide +kernel
theorem kit_ds : kitB "dict" "str" = some false := by decide +kernel
theorem kit_ns : kitB "NoneType" "str" = some false := by decide +kernel
theorem kit_il : kitB "int" "list" = some false := by decide +kernel
theorem kit_bl : kitB "bool" "list" = some false := by decide +kernel
theorem kit_tl : kitB "tuple" "list" = some false := by decide +kernel
theorem kit_sl : kitB "str" "list" = some false := by decide +kernel
theorem kit_dl : kitB "dict" "list" = some false := by decide +kernel
theorem kit_nl : kitB "NoneType" "list" = some false := by decide +kernel
theorem kit_id : kitB "int" "dict" = some false := by decide +kernel
theorem kit_bd : kitB "bool" "dict" = some false := by decide +kernel
theorem kit_td : kitB "tuple" "dict" = some false := by decide +kernel
theorem kit_sd : kitB "str" "dict" = some false := by decide +kernel
theorem kit_ld : kitB "list" "dict" = some false := by decide +kernel
theorem kit_nd : kitB "NoneType" "dict" = some false := by decide +kernel
end DL

/-! promises of the checks, of any value -/
namespace DL
open PySem PySem.Spec L2 Ln
variable [LamT]
def ctv_is_whole : Ct := ⟨D, fun d ds => ds = [d] ∧ ∃ n, Pln n d, fun d r _ => r = .bl (isW d)⟩
def ctv_is_number : Ct := ⟨D × Int, fun a ds => ds = [a.1, .int a.2] ∧ ∃ n, Pln n a.1, fun a r _ => r = .bl (isN a.1 a.2)⟩
def ctv_is_pointer : Ct := ⟨D, fun d ds => ds = [d] ∧ ∃ n, Pln n d, fun d r _ => r = .bl (isPtr d)⟩
end DL

/-! heads: a def other than law that holds the lambdas -/
namespace DL
open PySem PySem.Spec L2
open PyProof.Rows (envOfC)
theorem sp_lawT (T : LamT) {K : PySem.W.Frag} {H : Hp} {a : Addr} {ns : List Int} {C : Ct} (pre : ∀ zs : List Int, zs.length ≤ 1000 → ∃ x : C.α, C.pre x [.fz (zs.map D.int)] ∧ ∀ d ds', C.post x d ds' → d = .bl true)
    (hn : ns.length ≤ 1000) (hT : LamX.Tabs T.tk H) (h : SqL K H a (ns.map V.int)) : @toSp T K 0 C [.ref a] H (fun v _ => v = .bl true) (fun _ _ _ => False) := by
  letI : LamT := T
  obtain ⟨x, px, po⟩ := pre ns hn
  have fin : ∀ d ds', C.post x d ds' → ∀ v Z' H' G F', Reps K Z' H' ds' ([V.ref a].take 0) F' → Rep K Z' H' d v G → v = .bl true := by
    intro d ds' hd v Z' H' G F' _ r
    have hd : d = .bl true := po d ds' hd
    subst hd
    cases r
    rfl
  rcases h with h | h
  · refine ⟨fun b => b = a, [.fz (ns.map D.int)], [], Reps.cons (show Rep K (fun b => b = a) H (.fz (ns.map D.int)) (.ref a) [] from .fz (.inl ⟨rfl, h⟩) (Reps.ofInts ns)) .nil, List.nodup_nil, (fun x hx => nomatch hx), ⟨fun b hb => ?_, hT⟩, x, px, fun d ds' hd v Z' H' G F' r1 r2 _ _ _ _ => fin d ds' hd v Z' H' G F' r1 r2⟩
    subst hb
    rcases h with h | ⟨o, h⟩
    · exact ⟨_, h, ntb_lst⟩
    · exact ⟨_, h, ntb_frzL⟩
  · exact ⟨fun _ => False, [.fz (ns.map D.int)], [], Reps.cons (show Rep K (fun _ => False) H (.fz (ns.map D.int)) (.ref a) [] from .fz (.inr fun _ => .inr h) (Reps.ofInts ns)) .nil, List.nodup_nil, (fun x hx => nomatch hx), ⟨fun _ h => h.elim, hT⟩, x, px, fun d ds' hd v Z' H' G F' r1 r2 _ _ _ _ => fin d ds' hd v Z' H' G F' r1 r2⟩
end DL

/-! heads: several defs that hold lambdas -/
namespace DL
open PySem PySem.Spec L2
@[reducible] def lamTs (l : List (Addr × Str)) (ob : Str → Addr := fun _ => 0) : LamT := ⟨l, ob⟩
theorem tabs_of {l : List (Addr × Str)} {ob : Str → Addr} {H : Hp} (h : ∀ p ∈ l, H p.1 = some (.tbl #[])) : LamX.Tabs (lamTs l ob).tk H := fun p hp => ⟨#[], h p hp, trivial, fun pos cv hc => nomatch (show (none : Option Value) = some cv from hc)⟩
theorem nd_fst {l : List (Addr × Str)} (nd : (l.map (·.1)).Nodup) {P : Addr} {q q' : Str} (h : (P, q) ∈ l) (h' : (P, q') ∈ l) : q = q' := by
  induction l with
  | nil => exact nomatch h
  | cons x l ih =>
    rw [List.map_cons, List.nodup_cons] at nd
    rcases List.mem_cons.mp h with e | e <;> rcases List.mem_cons.mp h' with e' | e'
    · rw [← e] at e'; exact (Prod.mk.inj e').2.symm
    · exact absurd (List.mem_map.mpr ⟨_, e', by rw [← e]⟩) nd.1
    · exact absurd (List.mem_map.mpr ⟨_, e, by rw [← e']⟩) nd.1
    · exact ih nd.2 e e'
theorem lamAt_of {l : List (Addr × Str)} {ob : Str → Addr} {P c : Addr} {q ql : Str} {base : Heap} {mg : Str → Option Value} (tb : LamX.TabB base mg c P) (hq : ql ++ "<lambda>" = q) (hm : (P, q) ∈ l) (nd : (l.map (·.1)).Nodup) : ∀ env : Env, env.code = .ref c → env.qual = ql → @LamAt (lamTs l ob) base mg env := fun env h1 h2 => by
  refine @LamAt.mk (lamTs l ob) _ _ _ ⟨c, P, h1, tb, ?_, fun p hp e => ?_⟩
  · rw [h2, hq]
    exact hm
  · rw [h2, hq]
    obtain ⟨p1, p2⟩ := p
    have e : p1 = P := e
    subst e
    exact nd_fst nd hp hm
/-- the tables of some defs, with their lambdas' name -/
def lamOf (K : PySem.W.Frag) (tf : List He.Defn) : List (Addr × Str) := tf.map fun p => ((He.cT K p).2, p.1 ++ ".<locals>.<lambda>")
def ndB (K : PySem.W.Frag) (tf : List He.Defn) : Bool := decide ((tf.map fun p => (He.cT K p).2).Nodup)
theorem lamOf_nd {K : PySem.W.Frag} {tf : List He.Defn} (h : ndB K tf = true) : ((lamOf K tf).map (·.1)).Nodup := by
  have e : (lamOf K tf).map (·.1) = tf.map fun p => (He.cT K p).2 := by unfold lamOf; rw [List.map_map]; rfl
  rw [e]
  exact of_decide_eq_true h
theorem lamOf_tab {K : PySem.W.Frag} {ob : Str → Addr} {tf : List He.Defn} {H : Hp} (h : ∀ p ∈ tf.map (He.cT K), H p.2 = some (.tbl #[])) : LamX.Tabs (lamTs (lamOf K tf) ob).tk H := tabs_of fun p hp => by
  obtain ⟨q, hq, rfl⟩ := List.mem_map.mp hp
  exact h _ (List.mem_map.mpr ⟨q, hq, rfl⟩)
theorem lamOf_mem {K : PySem.W.Frag} {tf : List He.Defn} {x q : Str} (h : ((x, none) : He.Defn) ∈ tf) (e : x ++ ".<locals>.<lambda>" = q) : ((He.cT K (x, none)).2, q) ∈ lamOf K tf := List.mem_map.mpr ⟨_, h, by rw [← e]⟩
end DL

/-! heads: what is known holds the table of statics, too -/
namespace DL
open PySem PySem.Spec L2
section
variable (n : Nat) (fa : List He.Fa) (fn : List He.DefD) (tf : List He.Defn) (ex : PySem.W.Frag → Bool)
variable {n fa fn tf ex}
variable (n fa fn tf ex)
variable {n fa fn tf ex}
end
end DL

/-! versions that stay: prefixes, ways, a story woven anew -/
namespace DL
open PySem PySem.Spec L2
variable [LamT]
theorem heas_pre {w : Nat} {ps : List Pr} : ∀ qs : List Pr, ∃ ys, heas w (ps ++ qs) = heas w ps ++ ys
  | [] => ⟨[], by rw [List.append_nil, List.append_nil]⟩
  | q :: qs => by
    obtain ⟨ys, e⟩ := heas_pre (w := w) (ps := ps ++ [q]) qs
    rw [List.append_assoc] at e
    exact ⟨_, by rw [show q :: qs = [q] ++ qs from rfl, e, heas_add, List.append_assoc]⟩
theorem heas_len {w : Nat} {ps : List Pr} : (heas w ps).length = ps.length + 1 := by
  suffices h : ∀ (ps : List Pr) (s : List Hea), (ps.foldl (fun s p => s ++ [doD (s.getD p.1 []) p.2]) s).length = s.length + ps.length by
    have := h ps [[List.replicate w .non]]
    rw [List.length_singleton] at this
    unfold heas
    omega
  intro ps
  induction ps with
  | nil => intro s; rfl
  | cons p ps ih =>
    intro s
    rw [List.foldl_cons, ih]
    simp only [List.length_append, List.length_cons, List.length_nil]
    omega
theorem heas_zero {w : Nat} {ps : List Pr} : (heas w ps)[0]? = some [List.replicate w .non] := by
  obtain ⟨ys, e⟩ := heas_pre (w := w) (ps := []) ps
  rw [List.nil_append] at e
  rw [e]
  rfl
/-- the heap behind a deed -/
theorem heas_at {w b : Nat} {ps : List Pr} (ok : StO w b ps) {v : Nat} {p : Pr} (hp : ps[v]? = some p) : (heas w ps)[v + 1]? = some (doD ((heas w ps).getD p.1 []) p.2) := by
  have lt := (List.getElem?_eq_some_iff.mp hp).1
  obtain ⟨p1, _, _⟩ := ok v p hp
  have e0 : ps = ps.take v ++ ([p] ++ ps.drop (v + 1)) := by
    have z : ps.drop v = p :: ps.drop (v + 1) := by
      rw [List.drop_eq_getElem_cons lt]
      have := (List.getElem?_eq_some_iff.mp hp).2
      rw [this]
    have z2 := List.take_append_drop v ps
    rw [z] at z2
    exact z2.symm
  obtain ⟨ys, e⟩ := heas_pre (w := w) (ps := ps.take v ++ [p]) (ps.drop (v + 1))
  rw [List.append_assoc, ← e0, heas_add] at e
  have l1 := heas_len (w := w) (ps := ps.take v)
  have l2 : (ps.take v).length = v := by rw [List.length_take]; omega
  have g : (heas w ps).getD p.1 [] = (heas w (ps.take v)).getD p.1 [] := by
    rw [e, List.append_assoc, List.getD_eq_getElem?_getD, List.getD_eq_getElem?_getD, List.getElem?_append_left (by omega)]
  rw [g, e, List.append_assoc, List.getElem?_append_right (by omega), l1, l2, Nat.sub_self]
  rfl
/-- what a version has -/
theorem heas_ok {w b : Nat} (h1 : 1 ≤ w) (h6 : w ≤ 6) {ps : List Pr} (ok : StO w b ps) (hb : 1 + b * ps.length ≤ 1000) {i : Nat} {h : Hea} (e : (heas w ps)[i]? = some h) : WfH w h ∧ (szs ps).getD i 0 = h.length ∧ h.length ≤ 1 + b * ps.length := by
  obtain ⟨_, l2⟩ := heas_wf h1 h6 ps.length rfl ok hb
  obtain ⟨a, b, c⟩ := l2 i h e
  exact ⟨a, by rw [List.getD_eq_getElem?_getD, b]; rfl, c⟩
theorem heas_get {w : Nat} {ps : List Pr} {i : Nat} (h : i ≤ ps.length) : ∃ g, (heas w ps)[i]? = some g := ⟨_, List.getElem?_eq_getElem (by rw [heas_len]; omega)⟩
theorem getD_of {α : Type} {xs : List α} {i : Nat} {x d : α} (h : xs[i]? = some x) : xs.getD i d = x := by rw [List.getD_eq_getElem?_getD, h]; rfl
/-- a deed can be done where it was done -/
theorem sto_deed {w b : Nat} (h1 : 1 ≤ w) (h6 : w ≤ 6) {ps : List Pr} (ok : StO w b ps) (hb : 1 + b * ps.length ≤ 1000) {v : Nat} {p : Pr} (hp : ps[v]? = some p) {g : Hea} (eg : (heas w ps)[p.1]? = some g) : WfH w g ∧ OkD w g.length p.2 ∧ p.2.length ≤ b ∧ g.length ≤ 1 + b * ps.length ∧ (heas w ps)[v + 1]? = some (doD g p.2) := by
  have lt := (List.getElem?_eq_some_iff.mp hp).1
  obtain ⟨p1, p2, p3⟩ := ok v p hp
  obtain ⟨a1, a2, a3⟩ := heas_ok h1 h6 ok hb eg
  have e := heas_at ok hp
  rw [getD_of eg] at e
  refine ⟨a1, ?_, p2, a3, e⟩
  have es : (szs (ps.take v)).getD p.1 0 = (szs ps).getD p.1 0 := by
    obtain ⟨ys, ey⟩ : ∃ ys, szs ps = szs (ps.take v) ++ ys := by
      have z : ∀ (qs : List Pr) (ps : List Pr), ∃ ys, szs (ps ++ qs) = szs ps ++ ys := by
        intro qs
        induction qs with
        | nil => intro ps; exact ⟨[], by rw [List.append_nil, List.append_nil]⟩
        | cons q qs ih =>
          intro ps
          obtain ⟨ys, e⟩ := ih (ps ++ [q])
          rw [List.append_assoc] at e
          exact ⟨_, by rw [show q :: qs = [q] ++ qs from rfl, e, szs_add, List.append_assoc]⟩
      have := z (ps.drop v) (ps.take v)
      rw [List.take_append_drop] at this
      exact this
    have l := szs_len (ps := ps.take v)
    have l2 : (ps.take v).length = v := by rw [List.length_take]; omega
    rw [ey, List.getD_eq_getElem?_getD, List.getD_eq_getElem?_getD, List.getElem?_append_left (by omega)]
  rw [es, a2] at p3
  exact p3
/-! ### ways -/
/-! ### what a deed leaves -/
/-! ### the same pairs in another sequence -/
structure Wov (w b : Nat) (ps fs : List Pr) (ks vs lf : List Nat) : Prop where
  lk : ks.length = fs.length + 1
  lv : vs.length = fs.length + 1
  kn : ks.Nodup
  ln : lf.Nodup
  ll : ∀ x ∈ lf, x < ps.length
  lm : ∀ x, x < ps.length → (x ∈ lf ↔ x + 1 ∉ ks)
  kz : 0 ∈ ks
  cnt : lf.length + fs.length = ps.length
  ok : StO w b fs
  he : ∀ (i k v : Nat), ks[i]? = some k → vs[i]? = some v → v ≤ fs.length ∧ (heas w fs)[v]? = (heas w ps)[k]?
theorem Wov.start {w b : Nat} {ps : List Pr} : Wov w b ps [] [0] [0] (List.range ps.length) where
  lk := rfl
  lv := rfl
  kn := by simp
  ln := List.nodup_range
  ll := fun x hx => List.mem_range.mp hx
  lm := fun x hx => ⟨fun _ => by simp, fun _ => List.mem_range.mpr hx⟩
  kz := by simp
  cnt := by simp
  ok := StO.nil
  he := fun i k v hk hv => by
    cases i with
    | zero =>
      cases (Option.some.inj hk : 0 = k)
      cases (Option.some.inj hv : 0 = v)
      exact ⟨Nat.le_refl _, heas_zero.trans heas_zero.symm⟩
    | succ i => exact nomatch hk
theorem Wov.step {w b : Nat} {ps fs : List Pr} {ks vs lf : List Nat} (h1 : 1 ≤ w) (h6 : w ≤ 6) (ok : StO w b ps) (hb : 1 + b * ps.length ≤ 1000) (W : Wov w b ps fs ks vs lf) {x i v : Nat} {p : Pr} (hx : x ∈ lf) (hp : ps[x]? = some p) (hk : ks[i]? = some p.1) (hv : vs[i]? = some v) :
    Wov w b ps (fs ++ [(v, p.2)]) (ks ++ [x + 1]) (vs ++ [fs.length + 1]) (lf.erase x) := by
  have lx := W.ll x hx
  have nx := (W.lm x lx).mp hx
  obtain ⟨v1, v2⟩ := W.he i p.1 v hk hv
  have px := (ok x p hp).1
  obtain ⟨g, eg⟩ := heas_get (w := w) (ps := ps) (i := p.1) (by omega)
  rw [eg] at v2
  obtain ⟨a1, a2, a3, a4, a5⟩ := sto_deed h1 h6 ok hb hp eg
  have cnt := W.cnt
  have lpos : 0 < lf.length := List.length_pos_of_mem hx
  have hbf : b * fs.length ≤ b * ps.length := Nat.mul_le_mul_left b (by omega)
  obtain ⟨_, c2, _⟩ := heas_ok h1 h6 W.ok (by omega) v2
  have lh := heas_len (w := w) (ps := fs)
  refine ⟨by rw [List.length_append, List.length_append, W.lk]; rfl, by rw [List.length_append, List.length_append, W.lv]; rfl, ?_, W.ln.erase x, fun y hy => W.ll y (List.mem_of_mem_erase hy), fun y hy => ?_, List.mem_append_left _ W.kz, ?_, ?_, ?_⟩
  · refine List.nodup_append.mpr ⟨W.kn, by simp, fun a ha c hc e => ?_⟩
    rw [List.mem_singleton.mp hc] at e
    exact nx (e ▸ ha)
  · rw [W.ln.mem_erase_iff, List.mem_append, List.mem_singleton]
    have := W.lm y hy
    constructor
    · rintro ⟨q1, q2⟩ (q | q)
      · exact this.mp q2 q
      · omega
    · intro q
      refine ⟨fun e => q (.inr (by rw [e])), this.mpr fun z => q (.inl z)⟩
  · rw [List.length_erase_of_mem hx, List.length_append, List.length_singleton]
    omega
  · exact W.ok.add v1 a3 (by rw [c2]; exact a2)
  · intro i' k' v' hk' hv'
    rw [List.length_append, List.length_singleton, heas_add]
    by_cases c : i' < fs.length + 1
    · rw [List.getElem?_append_left (by rw [W.lk]; exact c)] at hk'
      rw [List.getElem?_append_left (by rw [W.lv]; exact c)] at hv'
      obtain ⟨u1, u2⟩ := W.he i' k' v' hk' hv'
      refine ⟨by omega, ?_⟩
      rw [List.getElem?_append_left (by omega)]
      exact u2
    · have li := (List.getElem?_eq_some_iff.mp hk').1
      rw [List.length_append, W.lk, List.length_singleton] at li
      have ei : i' = fs.length + 1 := by omega
      subst ei
      rw [List.getElem?_append_right (by rw [W.lk]; exact Nat.le_refl _), W.lk, Nat.sub_self] at hk'
      rw [List.getElem?_append_right (by rw [W.lv]; exact Nat.le_refl _), W.lv, Nat.sub_self] at hv'
      cases (Option.some.inj hk' : x + 1 = k')
      cases (Option.some.inj hv' : fs.length + 1 = v')
      refine ⟨Nat.le_refl _, ?_⟩
      rw [List.getElem?_append_right (by omega), lh, Nat.sub_self, a5]
      show some (doD ((heas w fs).getD v []) p.2) = _
      rw [getD_of v2]
/-- there is always one whose parent is there -/
theorem Wov.some {w b : Nat} {ps fs : List Pr} {ks vs lf : List Nat} (ok : StO w b ps) (W : Wov w b ps fs ks vs lf) : ∀ (n x : Nat), x ≤ n → x ∈ lf → ∃ y ∈ lf, ∃ p, ps[y]? = some p ∧ p.1 ∈ ks := by
  intro n
  induction n with
  | zero =>
    intro x hn hx
    have lx := W.ll x hx
    have px := ok x _ (List.getElem?_eq_getElem lx)
    refine ⟨x, hx, _, List.getElem?_eq_getElem lx, ?_⟩
    rw [show ps[x].1 = 0 from by omega]
    exact W.kz
  | succ n ih =>
    intro x hn hx
    have lx := W.ll x hx
    have px := (ok x _ (List.getElem?_eq_getElem lx)).1
    by_cases z : ps[x].1 ∈ ks
    · exact ⟨x, hx, _, List.getElem?_eq_getElem lx, z⟩
    · have nz : ps[x].1 ≠ 0 := fun e => z (by rw [e]; exact W.kz)
      have m := W.lm (ps[x].1 - 1) (by omega)
      rw [Nat.sub_add_cancel (by omega)] at m
      exact ih (ps[x].1 - 1) (by omega) (m.mpr z)
/-- all are there at the end -/
theorem Wov.all {w b : Nat} {ps fs : List Pr} {ks vs lf : List Nat} (W : Wov w b ps fs ks vs lf) (hl : fs.length = ps.length) {v : Nat} (hv : v ≤ ps.length) : v ∈ ks := by
  have cnt := W.cnt
  have e : lf = [] := List.eq_nil_of_length_eq_zero (by omega)
  cases v with
  | zero => exact W.kz
  | succ v =>
    have m := W.lm v (by omega)
    rw [e] at m
    exact Classical.byContradiction fun z => nomatch m.mpr z
end DL

/-! isinstance(x, (S, T)); x.remove(k); {0: 0}; tuples of heaps compared -/
namespace DL
open PySem PySem.Spec L2
variable [LamT]
theorem at4_0 {a b c d : D} : atI [a, b, c, d] 0 = some a := rfl
theorem at4_1 {a b c d : D} : atI [a, b, c, d] 1 = some b := rfl
theorem at4_2 {a b c d : D} : atI [a, b, c, d] 2 = some c := rfl
theorem at4_3 {a b c d : D} : atI [a, b, c, d] 3 = some d := rfl
theorem kit_any2 {K : PySem.W.Frag} {t T1 T2 : String} {b1 b2 : Bool} (h1 : kitB t T1 = some b1) (h2 : kitB t T2 = some b2) : PySem.W.kitAny K (.type t) [.type T1, .type T2] = some (b1 || b2) :=
  kitAny_cons (kit_ty h1) (fun e => by
    subst e
    exact kitAny_cons (kit_ty h2) (fun e => by subst e; exact kitAny_nil) (fun e => by subst e; rfl)) (fun e => by subst e; rfl)
theorem erase_ix {m : Int} : ∀ {ns : List Int}, ns.eraseIdx (ns.idxOf m) = ns.erase m
  | [] => rfl
  | x :: xs => by
    by_cases q : x = m
    · subst q
      rw [List.idxOf_cons_self, List.erase_cons_head]
      rfl
    · have e : (x == m) = false := by simpa using q
      rw [List.idxOf_cons, e, List.erase_cons_tail (by simpa using q)]
      show x :: xs.eraseIdx (xs.idxOf m) = _
      rw [erase_ix]
section
variable {X : Cx} {a e : Expr} {es : List Expr} {E : EnvT} {k : Opd → EnvT → Prop} {pos p pt apos : Pos} {i : Nat} {x : Str}
theorem wo_isiT {x1} (hg : Gl X "isinstance") (hm : X.mg "isinstance" = none) (h : WO X a E fun o1 E1 => WA X es E1 fun os E2 => ∃ d t T1 T2 b1 b2, o1.get E2 = some d ∧ d.ty = some t ∧ os = [.val (.op (.ty T1)), .val (.op (.ty T2))] ∧ kitB t T1 = some b1 ∧ kitB t T2 = some b2 ∧ k (.val (.bl (b1 || b2))) E2)
    (hs : starEach [a, .Tuple es x1 pt] X.env = (false, eval a X.env) :: starEach [.Tuple es x1 pt] X.env := by rfl) (hs2 : starEach [.Tuple es x1 pt] X.env = (false, eval (.Tuple es x1 pt) X.env) :: starEach [] X.env := by rfl) : WO X (.Call (.Name "isinstance" p) [a, .Tuple es x1 pt] [] pos) E k := by
  intro Z H σ F Q he hk
  refine wpE_by (pe_callB call_isiT hg hm (by decide +kernel) (pa_cons pe_w (pa_cons (pe_tup pa_w) pa_nil hs2) hs) (he := hs) (hpl := by rw [hs2]; rfl)) ?_
  refine h Z H σ F _ he fun o1 E1 Z1 H1 F1 G1 v1 k1 f1 r1 => ?_
  refine k1 Z1 H1 σ F1 _ f1.env fun os E2 Z2 H2 F2 G2 vs ⟨d, t, T1, T2, b1, b2, g1, ht, eo, h1, h2, kk⟩ f2 r2 => ?_
  subst eo
  cases r2 with
  | cons ra rb =>
    cases rb with
    | cons rb rc =>
      cases rc
      cases ra
      cases rb
      refine ⟨Nat.le_of_ble_eq_true rfl, fun p hp => ?_⟩
      have gr := Grow.new0 (H := H2) (p := p) (o := .tup [.ty T1, .ty T2]) hp
      have r1' := r1.step f2.st (f1.off r1.mem f2)
      obtain ⟨G', rd, _⟩ := r1'.use f2.env g1
      refine ⟨v1, p, [.ty T1, .ty T2], .type t, [.type T1, .type T2], _, rfl, upd_same, .cons (.ty T1) (.cons (.ty T2) .nil), (rd.grow gr).ty ht, kit_any2 h1 h2, ?_⟩
      exact hk _ E2 Z2 _ F2 [] _ kk (((f1.join r1.mem f2).nil).grow gr) (.bl _)
theorem wo_removeI (hE : ∃ ds0, E[i]? = some (some (.lst ds0)))
    (h : WO X e E fun o1 E1 => ∃ (ns : List Int) (m : Int), o1.get E1 = some (.int m) ∧ E1[i]? = some (some (.lst (ns.map D.int))) ∧ m ∈ ns ∧ k (.val .non) (E1.set i (some (.lst ((ns.erase m).map D.int)))))
    (hb : PE X (.Call (.Attribute (.Name x p) "remove" apos) [e] [] pos) (tBM X.K "list" rRemI (tVar i) (wpA X [e]))) (hs : starEach [e] X.env = (false, eval e X.env) :: starEach [] X.env := by rfl) :
    WO X (.Call (.Attribute (.Name x p) "remove" apos) [e] [] pos) E k := by
  intro Z H σ F Q he hk
  obtain ⟨ds0, hE⟩ := hE
  obtain ⟨a0, vs0, Fd0, R0, hv, hl0, _⟩ := he.lst hE
  refine wpE_by hb ⟨_, hv, .inl ⟨rfl, vs0, SqL.of hl0⟩, ?_⟩
  have hA : WA X [e] E fun os E1 => ∃ o1, os = [o1] ∧ ∃ (ns : List Int) (m : Int), o1.get E1 = some (.int m) ∧ E1[i]? = some (some (.lst (ns.map D.int))) ∧ m ∈ ns ∧ k (.val .non) (E1.set i (some (.lst ((ns.erase m).map D.int)))) :=
    wa_cons (WO.mono h fun o1 E1 q => wa_nil ⟨o1, rfl, q⟩) hs
  refine hA Z H σ F _ he fun os E1 Z1 H1 F1 G vs ⟨o1, eo, ns, m, g1, hE1, hm, kk⟩ f1 rs => ?_
  subst eo
  cases rs with
  | cons r1 rn =>
    cases rn
    rename_i w1 G1
    obtain ⟨Gj, rj, _⟩ := r1.use f1.env g1
    cases rj
    obtain ⟨a1, vs1, Fd, R, hv1, hl1, rd, hR, hp1⟩ := f1.env.lst hE1
    rw [hv] at hv1
    cases hv1
    have ev := rd.ints
    subst ev
    obtain ⟨e1, e2⟩ := idxOf_first hm
    have ee : ns.eraseIdx (ns.idxOf m) = ns.erase m := erase_ix
    have rd2 : Reps X.K Z1 H1 ((ns.erase m).map D.int) ((ns.erase m).map V.int) [] := Reps.ofInts _
    obtain ⟨F', e3, s3⟩ := f1.env.chgL hE1 hv hl1 rd hR hp1 (Gt := []) (Fd' := []) f1.env.nd (fun y hy => nomatch hy) (fun y hy => nomatch hy) (by simp) rd2
    have s4 : Stp Z1 H1 F1 Z1 (upd H1 a0 (.lst ((ns.erase m).map V.int))) F' := s3
    refine ⟨a0, ns, m, ns.idxOf m, rfl, rfl, hl1, e1, e2, ?_⟩
    rw [ee]
    exact hk _ _ Z1 _ F' [] _ kk ⟨e3, e3.nd, (fun y hy => nomatch hy), f1.nil.st.trans s4⟩ .non
/-- {m: n} -/
theorem wo_dic2 {p1 p2 : Pos} {m n : Int} {j1 j2 : Nat} (h : k (.val (.dic ([m].map Sum.inl) [.int n])) E) : WO X (.Dict [some (.Constant (.int m) j1 p1)] [.Constant (.int n) j2 p2] pos) E k := by
  intro Z H σ F Q he hk
  refine wpE_by (pe_disp (pps_cons pe_int pe_int pps_nil) rfl rfl (by simp) (Nat.le_of_ble_eq_true rfl)) fun p hp0 => ⟨upd_same, [(Sum.inl m, .int n)], rfl, Nat.le_of_ble_eq_true rfl, ?_⟩
  have g : Grow H (upd (upd H p (.dK [])) p (.dK (mergeK [] [((Sum.inl m : Key), V.int n)]))) [p] :=
    ⟨fun a u e => by rw [upd_ne (ne_of_none e hp0), upd_ne (ne_of_none e hp0)]; exact e, fun a ha => by rw [List.mem_singleton.mp ha]; exact hp0, by simp⟩
  have pF : p ∉ F := fun q => by
    obtain ⟨o, e, _⟩ := he.r.mem p q
    rw [hp0] at e
    cases e
  refine hk _ E Z _ F [p] _ h ⟨⟨he.r.kp g.kp fun a _ o _ e => g.gr a o e, he.nd, he.nz, he.zt.gr g⟩, List.nodup_cons.mpr ⟨pF, he.nd⟩, fun x hx z => ?_, g.st⟩ (.dic (vs := [.int n]) (F := []) (by rw [upd_same]; rfl) rfl (Reps.cons (.int n) .nil))
  rw [List.mem_singleton.mp hx] at z
  obtain ⟨o, e, _⟩ := he.zt.th p z
  rw [hp0] at e
  cases e
end
end DL

/-! changes and deeds of any value: what the checks tell; promises -/
namespace DL
open PySem PySem.Spec L2
def ltI (d : D) (m : Int) : Bool := match d with
  | .int i => decide (i < m)
  | _ => false
def ptrLt (d : D) (m : Int) : Bool := two (fun _ e => ltI e m) d
/-- what a field can hold in a heap of m records -/
def isVal (d : D) (m : Int) : Bool := isNon d || isW d || (isPtr d && ptrLt d m)
def isRec (d : D) (w : Nat) (m : Int) : Bool := match d with
  | .tup ds => decide (ds.length = w) && ds.all (fun e => isVal e m)
  | _ => false
def mkN : D → Nat
  | .tup (.str x :: _) => if x = mkS then 1 else 0
  | _ => 0
/-- how many records there are behind j changes -/
def cnt (m : Nat) (ds : List D) : Nat := ds.foldl (fun m d => m + mkN d) m
variable [LamT]
def ctv_is_value : Ct := ⟨D × Nat, fun a ds => ds = [a.1, .int a.2] ∧ ∃ n, Pln n a.1, fun a r _ => r = .bl (isVal a.1 a.2)⟩
def ctv_is_record : Ct := ⟨D × Nat × Nat, fun a ds => ds = [a.1, .int a.2.1, .int a.2.2] ∧ ∃ n, n ≤ 100000 ∧ Pln n a.1, fun a r _ => r = .bl (isRec a.1 a.2.1 a.2.2)⟩
end DL

/-! displays that are frozen where they stand -/
namespace DL
open PySem PySem.Spec L2
variable [LamT]
section
variable {X : Cx} {a b c : Expr} {pos : Pos} {tA tB tC : TT}
end
/-- the slots that a lambda's work sees -/
def keepE : EnvT → List Bool → EnvT
  | [], _ => []
  | o :: E, true :: bs => o :: keepE E bs
  | _ :: E, false :: bs => none :: keepE E bs
  | _ :: E, [] => none :: keepE E []
theorem kit_self {K : PySem.W.Frag} {C : Addr} : PySem.W.kitOne K (.ref C) (.ref C) = some true := by
  unfold PySem.W.kitOne
  rw [if_pos (by simp)]
theorem cmp_neS {X : Cx} {i j : Str} : CmpD X .NotEq (.str i) (.str j) (!decide (i = j)) := .mk op_ne fun Z H v1 v2 G1 G2 r1 r2 Q q => by
  cases r1
  cases r2
  refine ⟨rfl, q _ H [] ?_ Grow.refl⟩
  have e1 : decide (V.str i = V.str j) = decide (i = j) := by by_cases h : i = j <;> simp [h]
  rw [e1]
  exact .bl _
section
variable {X : Cx} {n : List Nat} {E : EnvT} {k : Opd → EnvT → Prop} {pos : Pos} {es : List Expr}
theorem wo_lstF (h : WA X es E fun os E1 => ∃ ds, valsOf os = some ds ∧ ds.length ≤ 100000 ∧ Imms ds ∧ k (.val (.fz ds)) E1) : WO X (.List es pos) E k :=
  wo_freeze (wo_lst (WA.mono h fun os E1 ⟨ds, e, l, im, q⟩ => ⟨ds, e, l, ds, rfl, im, q⟩))
theorem wo_lst0F (h : k (.val (.fz [])) E) : WO X (.List [] pos) E k := wo_lstF (wa_nil ⟨[], rfl, Nat.le_of_ble_eq_true rfl, trivial, h⟩)
theorem wo_dic0F (h : k (.val (.fd [] [])) E) : WO X (.Dict [] [] pos) E k := wo_freezeD (wo_dic0 ⟨[], [], rfl, trivial, h⟩)
theorem wo_dic3F {m : Int} {j1 j2 : Nat} {p1 p2 : Pos} (h : k (.val (.fd ([m].map Sum.inl) [.non])) E) : WO X (.Dict [some (.Constant (.int m) j1 p1)] [.Constant .none j2 p2] pos) E k := wo_freezeD (wo_dic3 ⟨_, _, rfl, ⟨trivial, trivial⟩, h⟩)
theorem wo_listF {a : Expr} {p : Pos} (hg : Gl X "list") (hm : X.mg "list" = none) (h : WO X a E fun o E1 => ∃ ds, (o.get E1).bind D.seq = some ds ∧ Imms ds ∧ k (.val (.fz ds)) E1) (hs : starEach [a] X.env = (false, eval a X.env) :: starEach [] X.env := by rfl) : WO X (.Call (.Name "list" p) [a] [] pos) E k :=
  wo_freeze (wo_list hg hm (WO.mono h fun o E1 ⟨ds, g, im, q⟩ => ⟨ds, g, im, ds, rfl, im, q⟩) hs)
open LamX in
theorem wo_caughtK {st : Stmt} {cls : Str} {bs : List Bool} {CE : Addr} {Ng : List Str} {kb j : Nat} {params : Arguments} {body : Expr} {scope : Scope} {p lpos pos : Pos}
    (has : Has X.K X.mg "_law_caught" st ["work"]) (hCE : X.mg "CopyError" = some (.ref CE)) (Sg : FnScope ["work", "caught", "error"] ["work"] (defScope st))
    (hG : ∀ (g : Addr) (cdg : Value), GivesTo X ["work", "caught", "error"] "_law_caught" (defScope st) g cdg (defBody st) "work" (X.env.qual ++ "<lambda>") (TTc X.K CE))
    (hva : Vis (defScope st) "work") (lam : LamAt X.base X.mg X.env) (hr : Room j X.A) (hj : kb + 2 ≤ j) (hg : Gl X "_law_caught") (L : lamSB X.env.scope scope = true)
    (fx : ExF X.K X.mg cls) (m : Msk E (keepE E bs)) (hdef : defaultsOf params X.env = ([], []))
    (hbind : ∀ (q : Str) (cl : List (Str × Addr)) (pm cv ctv : Value), bindArgs (PySem.W.kla_fn "<lambda>" q params body scope cl pm cv ctv) ⟨[], []⟩ = pure [])
    (hbody : ∀ (A : Around) (outer : List Env) (s : Shared) (H : Hp) (Ec : XK) (f c' : Addr), Room kb (A.deeper (lamEnv X scope s.heap.objs.size f c')) → (let Y : Cx := lamCx X A outer s H Ec scope f c'; WXe Y body (keepE E bs) cls))
    (h : ∀ C, X.mg cls = some (.ref C) → k (.val (.exc C)) E) : WO X (.Call (.Name "_law_caught" p) [.Lambda params body scope lpos] [] pos) E k := wo_caught (Ng := Ng) has hCE Sg hG hva lam hr hj hg L fx m hdef hbind hbody h
/-- isinstance(_law_caught(..), C) and isinstance(caught, C) -/
theorem wo_isXc {b : Expr} {es : List Expr} {p p2 p3 : Pos} (hg : Gl X "isinstance") (hm : X.mg "isinstance" = none) (h : WO X (.Call (.Name "_law_caught" p2) es [] p3) E fun o1 E1 => WO X b E1 fun o2 E2 => ∃ (C D : Addr) (r : Bool), o1.get E2 = some (.exc C) ∧ o2 = .val (.op (.ref D)) ∧ L2.ExcC X.K C ∧ PySem.W.kitOne X.K (.ref C) (.ref D) = some r ∧ k (.val (.bl r)) E2)
    (hs : starEach [.Call (.Name "_law_caught" p2) es [] p3, b] X.env = (false, eval (.Call (.Name "_law_caught" p2) es [] p3) X.env) :: starEach [b] X.env := by rfl) (hs2 : starEach [b] X.env = (false, eval b X.env) :: starEach [] X.env := by rfl) :
    WO X (.Call (.Name "isinstance" p) [.Call (.Name "_law_caught" p2) es [] p3, b] [] pos) E k := wo_isX hg hm h hs hs2
theorem wo_isXn {b : Expr} {p p2 : Pos} (hg : Gl X "isinstance") (hm : X.mg "isinstance" = none) (h : WO X (.Name "caught" p2) E fun o1 E1 => WO X b E1 fun o2 E2 => ∃ (C D : Addr) (r : Bool), o1.get E2 = some (.exc C) ∧ o2 = .val (.op (.ref D)) ∧ L2.ExcC X.K C ∧ PySem.W.kitOne X.K (.ref C) (.ref D) = some r ∧ k (.val (.bl r)) E2)
    (hs : starEach [.Name "caught" p2, b] X.env = (false, eval (.Name "caught" p2) X.env) :: starEach [b] X.env := by rfl) (hs2 : starEach [b] X.env = (false, eval b X.env) :: starEach [] X.env := by rfl) :
    WO X (.Call (.Name "isinstance" p) [.Name "caught" p2, b] [] pos) E k := wo_isX hg hm h hs hs2
/-- a class of the module -/
theorem wo_cls {x : Str} {C : Addr} (hg : Gl X x) (hm : X.mg x = some (.ref C)) (h : k (.val (.op (.ref C))) E) (hd : (x == ("__debug__" : Str)) = false := by decide) : WO X (.Name x pos) E k :=
  wo_glob (d := .op (.ref C)) (v := .ref C) hg hm rfl (fun _ _ => .op _) h hd
end
end DL

/-! a, b, c = .., things that own -/
namespace DL
open PySem PySem.Spec L2
variable [LamT]
section
variable {X : Cx} {n : List Nat} {E : EnvT}
end
end DL

/-! d.get(k, x) with int keys and int values; (t1, t2) = .. with any targets; is True -/
namespace DL
open PySem PySem.Spec L2
variable [LamT]
section
variable {X : Cx} {e f : Expr} {E : EnvT} {k : Opd → EnvT → Prop} {p cpos apos : Pos} {i : Nat} {x : Str}
end
section
variable {X : Cx} {n : List Nat} {E : EnvT}
end
section
variable {X : Cx}
theorem cmp_isB {a b : Bool} : CmpD X .Is (.bl a) (.bl b) (decide (a = b)) := .mk op_isBl fun Z H v1 v2 G1 G2 r1 r2 Q q => by
  cases r1
  cases r2
  exact ⟨a, b, rfl, rfl, q _ H [] (.bl _) Grow.refl⟩
end
end DL

/-! two heaps walked side by side: they go together exactly if they show the same -/
namespace DL
open PySem PySem.Spec L2
variable [LamT]
/-! ### turn by turn -/
end DL

/-! the walk side by side, value by value -/
namespace DL
open PySem PySem.Spec L2
variable [LamT]
end DL

/-! odd values put together: no long sequence, a shape that == can be asked of -/
namespace DL
open PySem PySem.Spec L2 Ln
variable [LamT]
def Nic (n : Nat) (d : D) : Prop := Pln 1000 d ∧ ShpN n d
def Nics (n : Nat) (ds : List D) : Prop := ∀ d ∈ ds, Nic n d
theorem Nics.imms {n : Nat} {ds : List D} (h : Nics n ds) : Imms ds := Plns.imms (n := 1000) (plns_iff.mpr fun d hd => (h d hd).1)
theorem Nic.mono {n m : Nat} {d : D} (h : Nic n d) (l : n ≤ m) : Nic m d := ⟨h.1, h.2.mono l⟩
theorem Nics.pl {n : Nat} {ds : List D} (h : Nics n ds) : Plns 1000 ds := plns_iff.mpr fun d hd => (h d hd).1
section
variable {X : Cx}
end
section
variable {X : Cx} {a b : Expr} {E : EnvT} {k : Opd → EnvT → Prop} {pos : Pos}
end
end DL

/-! x[-1] = .. -/
namespace DL
open PySem PySem.Spec L2
variable [LamT]
section
variable {X : Cx} {n : List Nat} {e e1 e2 : Expr} {E : EnvT} {pos p p2 : Pos} {i : Nat} {x : Str} {d : D} {k : EnvT → Prop}
end
end DL

namespace Ln
/-! the line by a pile of versions: each pop puts the popped one's children on it, the youngest on top -/
/-- what lies on the pile when F is told and R is left -/
def pile (qs F R : List Int) : List Int := R.filter fun x => decide (x = 0) || decide (par qs x ∈ F)
end Ln

/-! stretches of a line at which something holds; how many there are at most -/
namespace Ln
end Ln

/-! ways up, depths, meets, in plain Lean; promises of the package's walks up -/
namespace DL
open PySem PySem.Spec L2 Ln
variable [LamT]
/-- the latest version of which both come -/
structure IsMeet (qs : List Int) (a b r : Int) : Prop where
  in1 : r ∈ way qs a
  in2 : r ∈ way qs b
  top : ∀ z, z ∈ way qs a → z ∈ way qs b → z ≤ r
theorem IsMeet.one {qs : List Int} {a b r s : Int} (h : IsMeet qs a b r) (k : IsMeet qs a b s) : r = s := by
  have := h.top s k.in1 k.in2
  have := k.top r h.in1 h.in2
  omega
end DL

/-! entries along a line, in plain Lean -/
namespace DL
open PySem PySem.Spec L2 Ln
variable [LamT]
structure EntOk (l : List Int) (ps : List (Int × HV)) : Prop where
  sub : (ps.map (·.1)).Sublist l
  ok : ∀ p ∈ ps, p.2.ok 1000000000000000000
end DL

/-! ways of fields through heaps, in plain Lean -/
namespace DL
open PySem PySem.Spec L2 Ln
variable [LamT]
end DL

/-! since when a way leads there, in plain Lean -/
namespace DL
open PySem PySem.Spec L2 Ln
variable [LamT]
end DL

/-! what more checks tell of any value; promises -/
namespace DL
open PySem PySem.Spec L2 Ln
def isWd : D → Bool
  | .int i => isN (.int i) 1 && decide (i ≤ 6)
  | _ => false
theorem isWd_no {d : D} (h : isN d 1 = false) : isWd d = false := by
  cases d <;> first | rfl | (show (isN _ 1 && _) = false; rw [h]; rfl)
variable [LamT]
def ctv_is_wide : Ct := ⟨D, fun d ds => ds = [d] ∧ ∃ n, Pln n d, fun d r _ => r = .bl (isWd d)⟩
def ctx_need_wide : CtX := ⟨D, fun d ds => ds = [d] ∧ (∃ n, Pln n d) ∧ isWd d = false, "BadWide"⟩
end DL

/-! list(enumerate(t)), t a tuple -/
namespace DL
open PySem PySem.Spec L2
variable [LamT]
section
variable {prog : Program} {w : World} {A : Around} {E : Value → Shared → Prop} {s : Shared}
/-- where the enumerate at en stands, whatever it gave out -/
def EnAt (h : Heap) (en ti : Addr) (j : Nat) : Prop := (∃ old, IsEnum h en ti j old) ∨ ∃ old T f ob, IsEnumHeld h en ti j old T f ∧ h.get? T = some ob ∧ T ≠ en ∧ T ≠ ti
end
section
open PyProof.Rows
variable {X : Cx} {pins : List (Addr × Obj)} {σ : L2.St}
theorem EnAt.keep {h h2 : Heap} {en ti : Addr} {j : Nat} (he : EnAt h en ti j) (k : ∀ u, h.get? en = some u → h2.get? en = some u) (th : ∀ b u, h.get? b = some u → ∃ v, h2.get? b = some v) : EnAt h2 en ti j := by
  rcases he with ⟨old, he⟩ | ⟨old, T, f, ob, he, hT, r⟩
  · exact .inl ⟨old, k _ he⟩
  · obtain ⟨v, hv⟩ := th T ob hT
    exact .inr ⟨old, T, f, v, k _ he, hv, r⟩
end
section
variable {X : Cx} {E : EnvT} {k : Opd → EnvT → Prop} {a : Expr} {pos pos2 p p2 : Pos}
end
end DL

/-! objects with methods: fields read, lists of fields opened into slots of their own, methods called -/
namespace DL
open PySem PySem.Spec L2
variable [LamT]
open PyProof.Rows (envOfC)
/-- what is known of a class and its objects' fields -/
structure Ob (K : PySem.W.Frag) (C : Addr) (fs : List Str) : Prop where
  cls : Cls K C
  no : ∀ f ∈ fs, NoAttr K C f
  nd : fs.Nodup
  sm : fs.length < 900
section
variable {K : PySem.W.Frag} {Z Z1 Z2 Z' : Addr → Prop} {H H1 H2 H' : Hp} {F F1 F2 F' G Gt G1 G2 G' R Fd Fd' : List Addr} {σ : Sl} {E E1 E2 E' : EnvT} {d d0 d1 d2 : D} {v v1 v2 : V} {ds es ds' : List D} {vs vs' : List V} {a b C : Addr} {i j : Nat} {fs : List Str}
theorem EnvS.obj (e : EnvS K Z H E σ F) (hE : E[i]? = some (some (.obj C fs ds))) : ∃ a dx vs Fd R, σ[i]? = some (some (.ref a)) ∧ H a = some (.ins C dx (fs.zip vs)) ∧ fs.length = vs.length ∧ Reps K Z H ds vs Fd ∧ EnvR K Z H (E.set i none) σ R ∧ F.Perm ((a :: Fd) ++ R) := by
  obtain ⟨v, G, R, h1, h2, h3, h4⟩ := e.r.get hE
  cases h2 with
  | obj hl hk rs => exact ⟨_, _, _, _, R, h1, hl, hk, rs, h3, h4⟩
theorem EnvS.ow (e : EnvS K Z H E σ F) (hE : E[i]? = some (some (.ow a ds))) : ∃ vs Fd R, σ[i]? = some (some (.ref a)) ∧ H a = some (.lst vs) ∧ Reps K Z H ds vs Fd ∧ EnvR K Z H (E.set i none) σ R ∧ F.Perm ((a :: Fd) ++ R) := by
  obtain ⟨v, G, R, h1, h2, h3, h4⟩ := e.r.get hE
  cases h2 with
  | ow hl rs => exact ⟨_, _, R, h1, hl, rs, h3, h4⟩
end
section
variable {X : Cx} {n : List Nat} {E : EnvT} {k : Opd → EnvT → Prop} {ks : KS} {sts : List Stmt} {pos pos' apos p : Pos} {i j g : Nat} {x y f : Str} {e o : Expr} {es : List Expr} {ds us : List D} {d : D} {a C : Addr} {fs : List Str}
end
end DL

/-! objects with methods: fields written, methods called, objects made -/
namespace DL
open PySem PySem.Spec L2
variable [LamT]
open PyProof.Rows (envOfC)
section
variable {K : PySem.W.Frag} {Z Z1 Z2 Z' : Addr → Prop} {H H1 H2 H' : Hp} {F F1 F2 F' G Gt G1 G2 G' R Fd Fd' Gs : List Addr} {σ : Sl} {E E1 E2 E' : EnvT} {d d0 d1 d2 : D} {v v0 v1 v2 : V} {ds es ds' : List D} {vs vs' : List V} {a b C : Addr} {i j : Nat} {fs : List Str}
end
section
variable {X : Cx} {n : List Nat} {E : EnvT} {k : Opd → EnvT → Prop} {ks : KS} {sts : List Stmt} {pos pos' apos p : Pos} {i j g : Nat} {x y f : Str} {e o : Expr} {es : List Expr} {ds us : List D} {d : D} {a C : Addr} {fs : List Str}
end
/-! ### methods -/
/-- a method of the class at C -/
structure HasM (K : PySem.W.Frag) (C : Addr) (m q : Str) (st : Stmt) (ps : List Str) : Prop where
  ex : ∃ (f : Addr) (fd : FuncData), Meth K C m f ∧ FunD K m q (defArgs st) (defBody st) (defScope st) [] [] f fd ∧ Binds K fd ps []
/-- the class at C has a method that keeps sp -/
structure CalM (P : Program) (w : World) (K : PySem.W.Frag) (mg : Str → Option Value) (base : Heap) (k : Nat) (C : Addr) (m : Str) (sp : Sp) : Prop where
  ex : ∃ (f : Addr) (fd : FuncData) (ps : List Str), FnOk P w K mg base CX0 k f fd ps sp ∧ Cls K C ∧ Meth K C m f ∧ Binds K fd ps [] ∧ FdAt K f fd ps
section
variable {X : Cx} {E E1 : EnvT} {k : Opd → EnvT → Prop} {e : Expr} {es : List Expr} {S : Ct} {XE : XK} {pos apos p : Pos} {i kd j : Nat} {x y m : Str} {C : Addr} {fs : List Str} {ds0 : List D}
end
end DL

/-! objects: what was opened is closed at each end -/
namespace DL
open PySem PySem.Spec L2
variable [LamT]
section
variable {K : PySem.W.Frag} {n : List Nat} {Z Z' : Addr → Prop} {H H' : Hp} {F F' G : List Addr} {σ σ' : Sl} {E E' : EnvT} {ds us : List D} {a C : Addr} {i j g : Nat} {fs : List Str}
end
section
variable {X : Cx} {n : List Nat} {E : EnvT} {ks : KS} {sts : List Stmt} {i j g : Nat} {y : Str} {ds us : List D} {C : Addr} {fs : List Str}
end
end DL

/-! objects that are only read: their fields, their methods, methods that raise; methods with keywords -/
namespace DL
open PySem PySem.Spec L2
variable [LamT]
open PyProof.Rows (envOfC)
section
variable {X : Cx} {E E1 : EnvT} {k : Opd → EnvT → Prop} {e : Expr} {es : List Expr} {S : Ct} {XE : XK} {pos apos p : Pos} {i kd j : Nat} {x y m f : Str} {C : Addr} {fs : List Str} {ds0 ds : List D} {d : D}
theorem EnvS.fo {K : PySem.W.Frag} {Z : Addr → Prop} {H : Hp} {σ : Sl} {F : List Addr} (e : EnvS K Z H E σ F) (hE : E[i]? = some (some (.fo C fs ds))) : ∃ a dx vs, σ[i]? = some (some (.ref a)) ∧ H a = some (.ins C dx (fs.zip vs)) ∧ fs.length = vs.length ∧ Reps K Z H ds vs [] ∧ Rep K Z H (.fo C fs ds) (.ref a) [] := by
  obtain ⟨v, G, R, h1, h2, _⟩ := e.r.get hE
  cases h2 with
  | fo z eH l r => exact ⟨_, _, _, h1, eH, l, r, .fo z eH l r⟩
end
/-! ### methods with keywords alone -/
/-- a method of the class at C, called with the keywords ks: the parameter behind self number i gets the value pm[i] -/
structure KwM (K : PySem.W.Frag) (C : Addr) (m : Str) (ks : List Str) (pm : List Nat) : Prop where
  ex : ∃ (f : Addr) (fd : FuncData) (ps : List Str), Meth K C m f ∧ FdAt K f fd ps ∧ KBn K fd ps 1 ks (fun us ws => us ++ gi pm ws) (fun vs zs => vs ++ gi pm zs)
section
variable {X : Cx} {E E1 : EnvT} {k : Opd → EnvT → Prop} {kws : List Keyword} {S : Ct} {XE : XK} {pos apos p : Pos} {i kd j : Nat} {x y m : Str} {C : Addr} {fs ks : List Str} {ds0 ds : List D} {d : D} {pm : List Nat}
end
/-! ### methods that raise -/
structure CalMX (P : Program) (w : World) (K : PySem.W.Frag) (mg : Str → Option Value) (base : Heap) (k : Nat) (C : Addr) (m : Str) (sp : Sp) : Prop where
  ex : ∃ (f : Addr) (fd : FuncData) (ps : List Str), FnOk P w K mg base (L2.CX P w) k f fd ps sp ∧ Cls K C ∧ Meth K C m f ∧ Binds K fd ps [] ∧ FdAt K f fd ps
section
variable {P : Program} {w : World} {K : PySem.W.Frag} {mg : Str → Option Value} {base : Heap} {C : Addr} {m q : Str}
end
section
variable {X : Cx} {E E1 : EnvT} {e : Expr} {es : List Expr} {pos apos p : Pos} {i kd j : Nat} {x y m : Str} {C : Addr} {fs : List Str} {ds0 ds : List D} {cls : Er}
end
end DL

/-! the sum of two lists that are known -/
namespace DL
open PySem PySem.Spec L2
variable [LamT]
end DL

/-! t == () for any tuple; defs as values, calls of them that raise -/
namespace DL
open PySem PySem.Spec L2
variable [LamT]
theorem op_eqT0G {X : Cx} (hu : X.A.units + 64 < cLine) : OpR X (compareOp .Eq) (fun x y H Q => ∃ a b xs, x = .ref a ∧ y = .ref b ∧ SqT X.K H a xs ∧ SqT X.K H b [] ∧ Q (.bl xs.isEmpty) H) := by
  intro pins s σ H x y v u Q I rx ry h
  obtain ⟨a, b, xs, rfl, rfl, ha, hb, q⟩ := h
  cases rx
  cases ry
  obtain ⟨its, o, n, r, ho, hc, hd⟩ := sqT_at I.hok I.kIn ha
  obtain ⟨its2, o2, n2, r2, ho2, hc2, hd2⟩ := sqT_at I.hok I.kIn hb
  cases r2
  have l1 := r.length
  refine SeqAt.eq_tupleAt (items := its.toArray) (items2 := #[]) (e := fun _ => true) ⟨o, ho, hc, n, hd⟩ ⟨o2, ho2, hc2, n2, hd2⟩ (by omega) (fun j h1 h2 => absurd h2 (by simp)) ?_
  have e : ((List.range (min its.toArray.size (#[] : Array Value).size)).all (fun _ => true) && its.toArray.size == (#[] : Array Value).size) = xs.isEmpty := by
    cases r with
    | nil => rfl
    | cons _ _ => simp
  rw [e]
  exact ⟨.bl _, H, I, rfl, q⟩
theorem cmp_eqTE {X : Cx} {ds : List D} (hu : X.A.units + 64 < cLine) : CmpD X .Eq (.tup ds) (.tup []) ds.isEmpty := .mk (op_eqT0G hu) fun Z H v1 v2 G1 G2 r1 r2 Q q => by
  obtain ⟨p1, vs1, rfl, h1, s1⟩ := r1.tseq rfl
  obtain ⟨p2, vs2, rfl, h2, s2⟩ := r2.tseq rfl
  cases s2
  have e : vs1.isEmpty = ds.isEmpty := by cases s1 <;> rfl
  refine ⟨p1, p2, vs1, rfl, rfl, h1, h2, ?_⟩
  rw [e]
  exact q _ H [] (.bl _) Grow.refl
/-- a def's address stands in a slot: the call raises -/
theorem wy_callL {X : Cx} {S : CtY} {x y : Str} {k j i : Nat} {f : Addr} {cls : Er} {e : Expr} {es : List Expr} {E : EnvT} {p pos : Pos} (cal : CalX X.prog X.w X.K X.mg X.base k x (toSpY X.K X.mg S)) (hm : X.mg x = some (.ref f)) (hr : Room j X.A) (hk : k ≤ j) (hN : X.N[i]? = some y) (hE : E[i]? = some (some (.op (.ref f))))
    (h : WA X (e :: es) E fun os E1 => ∃ ds, valsOf os = some ds ∧ ∃ a, S.pre a ds ∧ S.er a = cls)
    (hv : Vis X.env.scope y := by first | exact Or.inl rfl | exact Or.inr (Or.inl rfl) | exact Or.inr (Or.inr rfl)) (hdb : (y == ("__debug__" : Str)) = false := by decide) (hcd : (y == ("__classdict__" : Str)) = false := by decide)
    (he : starEach (e :: es) X.env = (false, eval e X.env) :: starEach es X.env := by rfl) (hpl : (backTo pos (starEach es X.env)).any (·.1) = false := by rfl) :
    WXe X (.Call (.Name y p) (e :: es) [] pos) E cls := by
  intro Z H σ F Ec Q henv tk hw
  obtain ⟨f', fd, ps, G, hm', kp, b, _⟩ := cal.ex
  rw [hm] at hm'
  cases hm'
  obtain ⟨v, G0, R, hs, r0, _⟩ := henv.r.get hE
  cases r0
  refine wpE_by (pe_callL (E := Ec) G (hr.mono hk) hN hv kp b .nil (passes_call tk fun _ _ _ _ q => q) pa_w hdb hcd he hpl) ⟨hs, ?_⟩
  refine h Z H σ F _ henv fun os E1 Z1 H1 F1 G1 vs ⟨ds, eo, a, pa, ea⟩ f1 rs => ?_
  have eo' := valsOf_map eo
  subst eo'
  rw [List.append_nil]
  refine ⟨Z1, ds, G1, rs.vals, (List.nodup_append.mp f1.nd).1, f1.nz, f1.env.zt, a, pa, fun C hC Z2 H2 F2 z s => ?_⟩
  rw [ea] at hC ⊢
  refine hw C hC Z2 H2 (F2 ++ F1) z (f1.st.trans (s.more (fun y hy => List.mem_append_left _ hy) fun y hy => ?_))
  rcases List.mem_append.mp hy with q | q
  · exact .inl q
  · exact .inr (List.mem_append_right _ q)
theorem wx_callL {X : Cx} {S : CtX} {x y : Str} {k j i : Nat} {f : Addr} {e : Expr} {es : List Expr} {E : EnvT} {p pos : Pos} (cal : CalX X.prog X.w X.K X.mg X.base k x (toSpX X.K X.mg S)) (hm : X.mg x = some (.ref f)) (hr : Room j X.A) (hk : k ≤ j) (hN : X.N[i]? = some y) (hE : E[i]? = some (some (.op (.ref f))))
    (h : WA X (e :: es) E fun os E1 => ∃ ds, valsOf os = some ds ∧ ∃ a, S.pre a ds)
    (hv : Vis X.env.scope y := by first | exact Or.inl rfl | exact Or.inr (Or.inl rfl) | exact Or.inr (Or.inr rfl)) (hdb : (y == ("__debug__" : Str)) = false := by decide) (hcd : (y == ("__classdict__" : Str)) = false := by decide)
    (he : starEach (e :: es) X.env = (false, eval e X.env) :: starEach es X.env := by rfl) (hpl : (backTo pos (starEach es X.env)).any (·.1) = false := by rfl) :
    WXe X (.Call (.Name y p) (e :: es) [] pos) E (S.cls : Er) := wy_callL cal hm hr hk hN hE (WA.mono h fun os E1 ⟨ds, eo, a, pa⟩ => ⟨ds, eo, a, pa, rfl⟩) hv hdb hcd he hpl
end DL

/-! four names as a target; calls by keywords alone that raise -/
namespace DL
open PySem PySem.Spec L2
variable [LamT]
section
variable {X : Cx} {n : List Nat} {E : EnvT}
end
/-! ### calls with keywords that raise -/
section
variable {X : Cx} {E : EnvT} {e : Expr} {es : List Expr} {kws : List Keyword} {S : CtX} {x : Str} {k j n : Nat} {p pos : Pos} {ks : List Str} {pm : List Nat}
end
end DL

/-! an __init__ of an own error class: super().__init__("..") and self.f = x -/
namespace DL
open PySem PySem.Spec L2
open PyProof.Rows
/-- its body -/
abbrev supBody (x m : Str) (j : Nat) (p0 p1 p2 p3 p4 p5 p6 p7 p8 p9 : Pos) : List Stmt :=
  [.Expr (.Call (.Attribute (.Call (.Name "super" p0) [] [] p1) "__init__" p2) [.Constant (.str m) j p3] [] p4) p5,
   .Assign [.Attribute (.Name "self" p6) x p7] (.Name x p8) p9]
abbrev supPar (x : Str) (q0 q1 : Pos) : Arguments := ⟨[], [⟨"self", none, q0⟩, ⟨x, none, q1⟩], none, [], [], none, []⟩
abbrev supSc (x : Str) : Scope := { kind := .function, names := [("self", .local), (x, .local), ("__class__", .free), ("super", .globalImplicit)], isGenerator := false, isCoroutine := false }
structure SupF (file : Str) (K : PySem.W.Frag) (C fI : Addr) (x : Str) (qual : Str) : Prop where
  ex : ∃ (oc ccl cl kV doc pm ct : Value) (od cdd cld an : Option Addr) (osl ccs csl : Array (Option Value)) (name m : Str) (j : Nat) (p0 p1 p2 p3 p4 p5 p6 p7 p8 p9 q0 q1 : Pos) (cda cc : Addr) (vs : Array Value) (tf : Tok),
    K.lookup fI = some ⟨oc, od, .func (PySem.W.ksFn name qual (supPar x q0 q1) (supBody x m j p0 p1 p2 p3 p4 p5 p6 p7 p8 p9) (supSc x) .none kV doc pm an (.ref cda) ct cc), osl⟩ ∧ PySem.W.codeIn K (.ref cda) qual = true ∧
      K.lookup cda = some ⟨ccl, cdd, .fields vs, ccs⟩ ∧ vs[2]? = some (.str file tf) ∧ (p2.endLine == p4.line) = true ∧ K.lookup cc = some ⟨cl, cld, .cell (some (.ref C)), csl⟩
structure SupK (file : Str) (K : PySem.W.Frag) (C fI : Addr) (x : Str) (qual : Str) : Prop where
  fn : SupF file K C fI x qual
  oex : OexC K C
  iC : PySem.W.findIn K (.ref C) "__init__" = some (some (.ref fI))
  tI : PySem.W.typeIn K (.ref fI) = some (.type "function")
  no : PySem.W.findIn K (.ref C) x = some none
  sub : PySem.W.mroIn K C (.ref C) = some true
  opq : PySem.W.nsIn K cStatics "thirdparty.any" = some none
  sup : PySem.W.ks_superIn K C C "__init__" = some (some (.builtin "ValueError.__init__"))
  ve : PySem.W.subIn K (.ref C) (.type "ValueError") = some true
section
open PySem.W PySem.Calls PyProof.Rows
variable {prog : Program} {w : World} {A : Around} {E : Value → Shared → Prop} {h : Heap} {g : Array GenState} {d : Drawn} {t : Nat} {os : OsState}
variable {nm q : Str} {C N : Addr} {bs bm : List Value} {hdct : Bool} {sn : List Str} {sub : List Value} {ab : Bool} {col : Option Bool} {dd : Option Addr} {k0 k1 k2 k3 k5 : Option Value}
end
section
variable {P : Program} {w : World} {K : PySem.W.Frag} {mg : Str → Option Value} {base : Heap} {C fI : Addr} {qual : Str}
end
end DL

/-! errors that bear a field: raised, caught, asked -/
namespace DL
open PySem PySem.Spec L2
variable [LamT]
open PyProof.Rows (envOfC)
def pv : D → Option V
  | .non => some .non
  | .bl b => some (.bl b)
  | .int i => some (.int i)
  | .str x => some (.str x)
  | .op v => some v
  | _ => none
/-- what is known of an error class x of the program, whose __init__ takes f -/
structure ExS (file : Str) (K : PySem.W.Frag) (mg : Str → Option Value) (x f : Str) : Prop where
  ex : ∃ (C CE fI : Addr) (qual : Str), mg x = some (.ref C) ∧ mg "CopyError" = some (.ref CE) ∧ SupK file K C fI f qual ∧ PySem.W.exmOne K (.ref C) (.ref CE) = some true ∧ mg "super" = none
theorem ExS.caught {file : Str} {K : PySem.W.Frag} {mg : Str → Option Value} {x f : Str} (S : ExS file K mg x f) {CE : Addr} (h : mg "CopyError" = some (.ref CE)) : ∃ C, mg x = some (.ref C) ∧ PySem.W.exmOne K (.ref C) (.ref CE) = some true := by
  obtain ⟨C, CE', fI, qual, g, gE, _, x1, _⟩ := S.ex
  rw [h] at gE
  cases gE
  exact ⟨C, g, x1⟩
/-- the program's file, its names -/
class PrF (P : Program) (file : outParam Str) : Prop where
  file : P.main.file = file
  top : (P.main.scope.names.lookup ("super" : Str)).isSome = false
section
variable {X : Cx} {E : EnvT} {p p3 pos : Pos}
end
/-! ### isinstance(e, C), e.f -/
section
variable {X : Cx}
end
section
variable {X : Cx} {a b : Expr} {E : EnvT} {k : Opd → EnvT → Prop} {pos p : Pos}
end
/-! ### _law_caught(lambda: ..) -/
open LamX in
section
variable {X : Cx} {E E0 : EnvT} {k : Opd → EnvT → Prop}
/-- .. whose body raises nothing -/
theorem wo_calm {st : Stmt} {CE : Addr} {Ng : List Str} {kb j : Nat} {params : Arguments} {body : Expr} {scope : Scope} {p lpos pos : Pos}
    (has : Has X.K X.mg "_law_caught" st ["work"]) (hCE : X.mg "CopyError" = some (.ref CE)) (Sg : FnScope ["work", "caught", "error"] ["work"] (defScope st))
    (hG : ∀ (g : Addr) (cdg : Value), GivesTo X ["work", "caught", "error"] "_law_caught" (defScope st) g cdg (defBody st) "work" (X.env.qual ++ "<lambda>") (TTc X.K CE))
    (hva : Vis (defScope st) "work") (lam : LamAt X.base X.mg X.env) (hr : Room j X.A) (hj : kb + 2 ≤ j) (hg : Gl X "_law_caught") (L : lamSB X.env.scope scope = true)
    (m : Msk E E0) (hdef : defaultsOf params X.env = ([], []))
    (hbind : ∀ (q : Str) (cl : List (Str × Addr)) (pm cv ctv : Value), bindArgs (PySem.W.kla_fn "<lambda>" q params body scope cl pm cv ctv) ⟨[], []⟩ = pure [])
    (hbody : ∀ (A : Around) (outer : List Env) (s : Shared) (H : Hp) (Ec : XK) (f c' : Addr), Room kb (A.deeper (lamEnv X scope s.heap.objs.size f c')) → (let Y : Cx := lamCx X A outer s H Ec scope f c'; WO Y body E0 fun _ _ => True))
    (h : k (.val .non) E) : WO X (.Call (.Name "_law_caught" p) [.Lambda params body scope lpos] [] pos) E k := by
  intro Z H σ F Q he hk
  obtain ⟨g, fd, FD, hm, hb⟩ := has.ex
  obtain ⟨oc, od, dV, kV, doc, pm, an, cdv, ct, osl, rfl, lk, hcd, _, _⟩ := FD.ex
  obtain ⟨c, P, e1, tb, e2, e3⟩ := lam.ex
  refine wpE_by (pe_lamcall (T := LamT.tk) (k := kb) (P := P) (t := fun Ec σ H Q => ∃ Z F0, EnvS X.K Z H E0 σ F0 ∧ ∀ (v : V) (Z' : Addr → Prop) (H' : Hp) (F' : List Addr), Zt X.K Z' H' → Stp Z H F0 Z' H' F' → Q v H') hg hm FD.kp lk hcd hb Sg rfl hva (hG g cdv) tb e1 e2 e3 (hr.mono hj) (lamS_by L) hdef hbind
    (fun A outer s H Ec f c' hr' => ⟨fun pins s' σ H' Q I ⟨Z, F0, he, hw⟩ => hbody A outer s H Ec f c' hr' Z H' σ F0 Q he (fun o E' Z2 H2 F2 G v _ f1 _ => hw v Z2 H2 _ f1.env.zt f1.st) pins s' I⟩)) ?_
  refine ⟨he.zt.tb, fun H1 eN T1 => ?_⟩
  have s1 : Stp Z H F Z H1 F := ⟨fun _ z => z, fun _ z => .inl z, fun a o e _ n => eN a o e n, fun _ => T1, fun a o e n => ⟨o, eN a o e n, n⟩, fun _ q => .inl q,
    fun a xs r => r.elim (fun r => .inl (eN _ _ r ntb_tup)) fun ⟨o, r⟩ => .inr ⟨o, eN _ _ r (fun _ z => nomatch z)⟩, fun a xs _ n r => eN _ _ r n, fun a o xs r => eN _ _ r (fun _ z => nomatch z)⟩
  have s0 : Stp Z H [] Z H1 [] := ⟨fun _ z => z, fun _ z => .inl z, fun a o e _ n => eN a o e n, fun _ => T1, fun a o e n => ⟨o, eN a o e n, n⟩, fun _ q => .inl q, s1.tu, s1.fl, s1.ft⟩
  have r1 := he.r.step s0 (fun _ _ q => nomatch q)
  refine ⟨Z, [], ⟨r1.msk m, List.nodup_nil, (fun _ q => nomatch q), he.zt.stp s1⟩, fun v Z' H' F' z' s' => ?_⟩
  refine ⟨.non, rfl, ?_⟩
  have s2 : Stp Z H [] Z' H' [] := (s0.trans s').sub fun _ q => nomatch q
  have r2 := he.r.step s2 (fun _ _ q => nomatch q)
  have nz2 : ∀ x ∈ F, ¬ Z' x := fun x hx z => by
    rcases s2.z2 x z with q | q | q
    · exact he.nz x hx q
    · exact nomatch q
    · obtain ⟨o, e, n⟩ := he.r.mem x hx
      exact q o e n
  refine hk _ E Z' _ F [] _ h ⟨⟨r2, he.nd, nz2, z'⟩, by simpa using he.nd, (fun _ q => nomatch q), ?_⟩ .non
  exact s2.more (fun _ q => nomatch q) fun x hx => .inr (by simpa using hx)
theorem wo_calmK {st : Stmt} {bs : List Bool} {CE : Addr} {Ng : List Str} {kb j : Nat} {params : Arguments} {body : Expr} {scope : Scope} {p lpos pos : Pos}
    (has : Has X.K X.mg "_law_caught" st ["work"]) (hCE : X.mg "CopyError" = some (.ref CE)) (Sg : FnScope ["work", "caught", "error"] ["work"] (defScope st))
    (hG : ∀ (g : Addr) (cdg : Value), GivesTo X ["work", "caught", "error"] "_law_caught" (defScope st) g cdg (defBody st) "work" (X.env.qual ++ "<lambda>") (TTc X.K CE))
    (hva : Vis (defScope st) "work") (lam : LamAt X.base X.mg X.env) (hr : Room j X.A) (hj : kb + 2 ≤ j) (hg : Gl X "_law_caught") (L : lamSB X.env.scope scope = true)
    (m : Msk E (keepE E bs)) (hdef : defaultsOf params X.env = ([], []))
    (hbind : ∀ (q : Str) (cl : List (Str × Addr)) (pm cv ctv : Value), bindArgs (PySem.W.kla_fn "<lambda>" q params body scope cl pm cv ctv) ⟨[], []⟩ = pure [])
    (hbody : ∀ (A : Around) (outer : List Env) (s : Shared) (H : Hp) (Ec : XK) (f c' : Addr), Room kb (A.deeper (lamEnv X scope s.heap.objs.size f c')) → (let Y : Cx := lamCx X A outer s H Ec scope f c'; WO Y body (keepE E bs) fun _ _ => True))
    (h : k (.val .non) E) : WO X (.Call (.Name "_law_caught" p) [.Lambda params body scope lpos] [] pos) E k := wo_calm (Ng := Ng) has hCE Sg hG hva lam hr hj hg L m hdef hbind hbody h
end
end DL

namespace K00
open PySem PySem.Spec L2 DL Ln
open PyProof.Rows (envOfC)
variable [LamT]
local macro_rules | `(tactic| walk_at "imm") => `(tactic| first | assumption | trivial | exact imms_ints | exact imms_pairs | (simp only [Imm, Imms]; done) | exact ⟨trivial, trivial⟩ | exact ⟨trivial, imms_ints⟩ | exact imms_cut imms_ints | exact imms_app imms_ints ⟨trivial, trivial⟩ | exact imms_app (imms_cut imms_ints) ⟨trivial, trivial⟩ | exact imms_app (imms_app (imms_cut imms_ints) ⟨trivial, trivial⟩) (imms_cut imms_ints))
local macro_rules | `(tactic| walk_at "add") => `(tactic| first | exact AddD.int | exact AddD.lst (by walk_at "imm") (by walk_at "imm") (by first | assumption | (simp; omega)) | ((refine AddD.tup ?at1 ?at2 ?at3 ?at4 ?at5); (case at1 => rfl); (case at2 => rfl); (case at3 => walk_at "imm"); (case at4 => walk_at "imm"); (case at5 => first | with_reducible assumption | (simp; omega))))
local macro_rules | `(tactic| walk_at "cost") => `(tactic| first | with_reducible assumption | (with_reducible exact cpow (by omega) (by omega) (by omega) (by omega)) | (with_reducible exact cdivw (by omega) (by omega)) | (with_reducible exact cmul1 (by omega) (by omega)) | (with_reducible exact cmul2 (by omega) (by omega)) | with_reducible exact imms_ints | omega)
local macro_rules | `(tactic| walk_at "mul") => `(tactic| ((refine MulD.int ?_); walk_at "cost"))
local macro_rules | `(tactic| walk_at "cmp") => `(tactic| first | with_reducible exact cmp_lt | with_reducible exact cmp_le | with_reducible exact cmp_gt | with_reducible exact cmp_ge | with_reducible exact cmp_eqI | with_reducible exact cmp_neI | with_reducible exact cmp_isN | with_reducible exact cmp_notN | ((with_reducible refine cmp_neLL ?_); with_reducible assumption) | ((with_reducible refine cmp_neTT ?_); with_reducible assumption) | ((with_reducible refine cmp_nePT ?_); with_reducible assumption) | ((with_reducible refine cmp_eqLL ?_); with_reducible assumption) | ((with_reducible refine cmp_eqLN ?_); with_reducible assumption) | ((with_reducible refine cmp_neLN ?_); with_reducible assumption) | ((with_reducible refine cmp_neP ?_); with_reducible assumption) | ((with_reducible refine cmp_eqN ?_); with_reducible assumption) | with_reducible exact cmp_notB | with_reducible exact cmp_neB | with_reducible exact cmp_eqB | with_reducible exact cmp_inL | with_reducible exact cmp_inF | with_reducible exact cmp_inT | with_reducible exact cmp_inP | with_reducible exact cmp_niL | with_reducible exact cmp_niF | with_reducible exact cmp_niT | with_reducible exact cmp_niP | ((with_reducible refine cmp_niD ?_); with_reducible assumption) | ((with_reducible refine cmp_inD ?_); with_reducible assumption) | ((with_reducible refine cmp_niFd ?_); with_reducible assumption) | ((with_reducible refine cmp_inFd ?_); with_reducible assumption))
local macro_rules | `(tactic| walk_at "ci") => `(tactic| first | exact cmpi_lt | exact cmpi_le | exact cmpi_gt | exact cmpi_ge)
local macro_rules | `(tactic| walk_at "sl") => `(tactic| first | ((refine sl_t ?_); walk_at "imm") | ((refine sl_p ?_); walk_at "imm") | ((refine sl_l ?_); walk_at "imm") | ((refine sl_f ?_); walk_at "imm"))
local macro_rules | `(tactic| walk_at "mark") => `(tactic| first | exact nomark _ | with_unfolding_all rfl)
local macro_rules | `(tactic| walk_at "boot") => `(tactic| first | with_reducible exact PyProof.Rows.boot_int | with_reducible exact PyProof.Rows.boot_bool | with_reducible exact PyProof.Rows.boot_tuple | with_reducible exact PyProof.Rows.boot_list | with_reducible exact PyProof.Rows.boot_str | with_reducible exact PyProof.Rows.boot_dict)
local macro_rules | `(tactic| walk_at "kit") => `(tactic| first | with_reducible exact kit_ii | with_reducible exact kit_ib | with_reducible exact kit_it | with_reducible exact kit_tt | with_reducible exact kit_ti | with_reducible exact kit_bb | with_reducible exact kit_bi | with_reducible exact kit_ll | with_reducible exact kit_dd | with_reducible exact kit_ss | with_reducible exact kit_si | with_reducible exact kit_li | with_reducible exact kit_di | with_reducible exact kit_ni | with_reducible exact kit_bt | with_reducible exact kit_st | with_reducible exact kit_lt | with_reducible exact kit_dt | with_reducible exact kit_nt | with_reducible exact kit_is | with_reducible exact kit_bs | with_reducible exact kit_ts | with_reducible exact kit_ls | with_reducible exact kit_ds | with_reducible exact kit_ns | with_reducible exact kit_il | with_reducible exact kit_bl | with_reducible exact kit_tl | with_reducible exact kit_sl | with_reducible exact kit_dl | with_reducible exact kit_nl | with_reducible exact kit_id | with_reducible exact kit_bd | with_reducible exact kit_td | with_reducible exact kit_sd | with_reducible exact kit_ld | with_reducible exact kit_nd | decide +kernel)
local macro_rules | `(tactic| walk_at "vis") => `(tactic| first | exact Or.inl rfl | exact Or.inr (Or.inl rfl) | exact Or.inr (Or.inr rfl))
local macro_rules | `(tactic| walk_at "pin") => `(tactic| first | decide | (simp only [watch, List.map_nil, List.map_cons, List.nil_append, List.append_nil, List.cons_append]; decide))
local macro_rules | `(tactic| walk_at "loc") => `(tactic| first | exact Or.inl rfl | exact Or.inr rfl)
local macro_rules | `(tactic| walk_at "key") => `(tactic| first | with_reducible exact key0 | with_reducible exact key1 | with_reducible exact key2 | with_reducible exact key3)
local macro_rules | `(tactic| walk_at "dg") => `(tactic| (
  (with_reducible refine' wo_dget ?h1 ?h2 ?h3 ?h4 ?h5 ?h6 ?h7 ?_ ?h9 ?h10 ?h11); (case h1 => with_reducible assumption); (case h2 => with_reducible assumption); (case h5 => walk_at "key"); (case h3 => rfl); (case h4 => exact kN); (case h6 => rfl); (case h7 => trivial); (case h9 => walk_at "vis"); (case h10 => decide); (case h11 => decide)))
local macro_rules | `(tactic| walk_at "ob") => `(tactic| first
  | (refine ⟨Nat.le_of_ble_eq_true rfl, ?_⟩; try dsimp only [List.set])
  | (refine ⟨_, rfl, Nat.le_of_ble_eq_true rfl, ?_⟩; try dsimp only [List.set])
  | (refine ⟨_, rfl, trivial, Nat.le_of_ble_eq_true rfl, Nat.le_of_ble_eq_true rfl, ?_⟩; try dsimp only [List.set])
  | (refine ⟨_, _, rfl, Nat.le_of_ble_eq_true rfl, Nat.le_of_ble_eq_true rfl, ?_⟩; try dsimp only [List.set])
  | (refine ⟨_, _, _, rfl, Nat.le_of_ble_eq_true rfl, Nat.le_of_ble_eq_true rfl, Nat.le_of_ble_eq_true rfl, ?_⟩; try dsimp only [List.set])
  | refine ⟨fun _ => ?_, fun h => Bool.noConfusion h⟩
  | refine ⟨fun h => Bool.noConfusion h, fun _ => ?_⟩
  | refine ⟨_, rfl, ?_⟩
  | refine ⟨_, _, rfl, rfl, ?_⟩
  | refine ⟨_, _, _, _, rfl, rfl, rfl, ?_⟩
  | (refine ⟨_, _, _, ?dd, rfl, rfl, rfl, ?hh, ?_⟩; (case hh => walk_at "kit"))
  | (refine ⟨_, _, ?dd, rfl, rfl, ?hh, ?_⟩; (case hh => first | walk_at "add" | walk_at "mul" | walk_at "cmp"))
  | (refine ⟨_, ?dd, rfl, ?hh, ?_⟩; (case hh => walk_at "sl"))
  | (refine ⟨_, _, ?dd, rfl, rfl, ?hh, ?ii, ?_⟩; (case hh => first | with_reducible assumption | with_reducible exact at2_0 | with_reducible exact at2_1 | with_reducible exact at3_0 | with_reducible exact at3_1 | with_reducible exact at3_2); (case ii => trivial))
  | (refine ⟨fun _ => ?_, ?hx⟩; (case hx => (intro h; exfalso; (first | ((simp only [decide_eq_false_iff_not, decide_eq_true_eq, Bool.not_eq_true', Bool.not_eq_false'] at h); omega) | ((simp at h); done)))))
  | (refine ⟨?hx, fun _ => ?_⟩; (case hx => (intro h; exfalso; (first | ((simp only [decide_eq_false_iff_not, decide_eq_true_eq, Bool.not_eq_true', Bool.not_eq_false'] at h); omega) | ((simp at h); done)))))
  | ((with_reducible refine And.intro ?hh ?_); (case hh => walk_at "cost")))
local macro_rules | `(tactic| walk_at "gWSs") => `(tactic| first
  | with_reducible refine wss_nil ?_
  | with_reducible refine wss_one ?_
  | with_reducible refine wss_cons ?_)
local macro_rules | `(tactic| walk_at "gWS") => `(tactic| first
  | with_reducible refine ws_if ?_
  | with_reducible refine ws_ret ?_
  | ((with_reducible refine' ws_set ?h1 ?h2 ?h3 ?h4 ?_ ?h6 ?h7); (case h1 => with_reducible assumption); (case h2 => with_reducible assumption); (case h3 => walk_at "loc"); (case h4 => walk_at "pin"); (case h6 => rfl); (case h7 => exact .inl rfl))
  | ((with_reducible refine' ws_augI ?h1 ?h2 ?h3 ?h4 ?h5 ?_ ?h7); (case h1 => with_reducible assumption); (case h2 => with_reducible assumption); (case h3 => rfl); (case h4 => walk_at "loc"); (case h5 => walk_at "pin"); (case h7 => exact .inl rfl))
  | ((with_reducible refine' ws_asg2 ?h1 ?h2 ?h3 ?h4 ?h5 ?h6 ?h7 ?_ ?h9 ?h10 ?h11 ?h12); (case h1 => with_reducible assumption); (case h2 => with_reducible assumption); (case h3 => with_reducible assumption); (case h4 => walk_at "loc"); (case h5 => walk_at "loc"); (case h6 => walk_at "pin"); (case h7 => walk_at "pin"); (case h9 => exact .inl rfl); (case h10 => exact .inl rfl); (case h11 => rfl); (case h12 => rfl))
  | ((with_reducible refine' ws_dput ?h1 ?h2 ?_ ?h4 ?h5 ?h6 ?h7); (case h1 => with_reducible assumption); (case h2 => with_reducible assumption); (case h4 => rfl); (case h5 => walk_at "vis"); (case h6 => decide); (case h7 => decide))
  | ((with_reducible refine' ws_asg ?_ ?h2 ?h3 ?h4); (case h2 => rfl); (case h3 => rfl); (case h4 => rfl))
  | ((with_reducible refine' ws_par ?a1 ?a2 ?a3 ?a4 ?a5 ?a6 ?a7 ?a8 ?a9 ?_ ?hw ?hs); (case a1 => rfl); (case a2 => with_reducible assumption); (case a3 => with_reducible assumption); (case a4 => with_reducible assumption); (case a5 => decide); (case a6 => walk_at "pin"); (case a7 => walk_at "pin"); (case a8 => rfl); (case a9 => rfl); (case hw => rfl); (case hs => rfl))
  | ((with_reducible refine ws_expr ?_ ?h2); (case h2 => rfl))
  | with_reducible refine ws_pass ?_)
local macro_rules | `(tactic| walk_at "gWG") => `(tactic| first
  | ((with_reducible refine' wg_name ?h1 ?h2 ?h3 ?h4 ?h5 ?_ ?h7); (case h1 => with_reducible assumption); (case h2 => with_reducible assumption); (case h3 => walk_at "loc"); (case h4 => walk_at "pin"); (case h5 => exact Nat.le_of_ble_eq_true rfl); (case h7 => exact .inl rfl); (try dsimp only [List.set]))
  | ((with_reducible refine' wg_pair ?a1 ?a2 ?a3 ?a4 ?a5 ?a6 ?a7 ?a8 ?a9 ?b1 ?_ ?b3 ?b4 ?b5 ?b6 ?b7); (case a1 => rfl); (case a2 => with_reducible assumption); (case a3 => with_reducible assumption); (case a4 => with_reducible assumption); (case a5 => walk_at "loc"); (case a6 => walk_at "loc"); (case a7 => walk_at "pin"); (case a8 => walk_at "pin"); (case a9 => exact Nat.le_of_ble_eq_true rfl); (case b1 => exact Nat.le_of_ble_eq_true rfl); (case b3 => exact .inl rfl); (case b4 => exact .inl rfl); (case b5 => exact fun t h => pg_tup rfl h); (case b6 => exact fun t u h1 h2 => pgs_cons h1 h2); (case b7 => exact fun t h => pgs_cons h pgs_nil); (try dsimp only [List.set]))
  | ((with_reducible refine' wg_tri ?a1 ?a2 ?a3 ?a4 ?a5 ?a6 ?a7 ?a8 ?b1 ?b2 ?b3 ?b4 ?b5 ?_ ?c1 ?c2 ?c3 ?c4 ?c5 ?c6 ?c7); (case a1 => rfl); (case a2 => with_reducible assumption); (case a3 => with_reducible assumption); (case a4 => with_reducible assumption); (case a5 => with_reducible assumption); (case a6 => walk_at "loc"); (case a7 => walk_at "loc"); (case a8 => walk_at "loc"); (case b1 => walk_at "pin"); (case b2 => walk_at "pin"); (case b3 => walk_at "pin"); (case b4 => exact ⟨Nat.le_of_ble_eq_true rfl, Nat.le_of_ble_eq_true rfl, Nat.le_of_ble_eq_true rfl⟩); (case b5 => first | exact ⟨trivial, trivial, trivial⟩ | exact ⟨trivial, imms_ints, trivial⟩); (case c1 => exact .inl rfl); (case c2 => exact .inl rfl); (case c3 => exact .inl rfl); (case c4 => exact fun t h => pg_tup rfl h); (case c5 => exact fun t u h1 h2 => pgs_cons h1 h2); (case c6 => exact fun t u h1 h2 => pgs_cons h1 h2); (case c7 => exact fun t h => pgs_cons h pgs_nil); (try dsimp only [List.set])))
local macro_rules | `(tactic| walk_at "gENm") => `(tactic| first
  | ((with_reducible refine' we_name ?h1 ?h2 ?h3 ?_ ?h5 ?h6 ?h7); (case h1 => with_reducible assumption); (case h2 => rfl); (case h3 => walk_at "imm"); (case h5 => walk_at "vis"); (case h6 => decide); (case h7 => decide))
  | ((with_reducible refine' we_move ?h1 ?h2 ?_ ?h5 ?h6 ?h7); (case h1 => with_reducible assumption); (case h2 => rfl); (case h5 => walk_at "vis"); (case h6 => decide); (case h7 => decide); (try dsimp only [List.set])))
local macro_rules | `(tactic| walk_at "gWE") => `(tactic| first
  | with_reducible refine we_of ?_)
local macro_rules | `(tactic| walk_at "gName") => `(tactic| first
  | ((with_reducible refine' wo_nameI ?h1 ?h2 ?h3 ?_ ?h5 ?h6 ?h7); (case h1 => with_reducible assumption); (case h2 => rfl); (case h3 => walk_at "imm"); (case h5 => walk_at "vis"); (case h6 => decide); (case h7 => decide))
  | ((with_reducible refine' wo_name ?h1 ?h2 ?_ ?h5 ?h6 ?h7); (case h1 => with_reducible assumption); (case h2 => rfl); (case h5 => walk_at "vis"); (case h6 => decide); (case h7 => decide))
  | ((with_reducible refine' wo_gint ?h1 ?h2 ?_ ?h4); (case h1 => rfl); (case h2 => with_reducible assumption); (case h4 => decide))
  | ((with_reducible refine' wo_tyn ?h1 ?h2 ?h3 ?_ ?h5 ?h6); (case h1 => rfl); (case h2 => with_reducible assumption); (case h3 => walk_at "boot"); (case h5 => decide); (case h6 => decide)))
local macro_rules | `(tactic| walk_at "gCon") => `(tactic| first
  | with_reducible refine wo_int ?_
  | with_reducible refine wo_non ?_
  | with_reducible refine wo_bl ?_
  | with_reducible refine wo_str ?_)
local macro_rules | `(tactic| walk_at "gBin") => `(tactic| first
  | with_reducible refine wo_addD ?_
  | with_reducible refine wo_sub ?_
  | with_reducible refine wo_mulD ?_
  | with_reducible refine wo_mod ?_
  | with_reducible refine wo_fdiv ?_
  | with_reducible refine wo_pow ?_
  | with_reducible refine wo_shl ?_)
local macro_rules | `(tactic| walk_at "gBool") => `(tactic| first
  | with_reducible refine wo_and ?_
  | with_reducible refine wo_or ?_
  | with_reducible refine wo_bone ?_)
local macro_rules | `(tactic| walk_at "gCmp") => `(tactic| first
  | ((with_reducible refine wo_chain ?_ ?h2); (case h2 => with_unfolding_all rfl))
  | ((with_reducible refine wo_cmpD ?h1 ?_); (case h1 => walk_at "mark")))
local macro_rules | `(tactic| walk_at "gSub") => `(tactic| first
  | walk_at "dg"
  | with_reducible refine wo_slD ?_
  | with_reducible refine wo_revL ?_
  | ((with_reducible refine' wo_fdget ?h1 ?h2 ?h3 ?h4 ?_ ?h6 ?h7 ?h8); (case h1 => with_reducible assumption); (case h2 => with_reducible assumption); (case h3 => rfl); (case h4 => exact fun _ _ => rfl); (case h6 => walk_at "vis"); (case h7 => decide); (case h8 => decide))
  | ((with_reducible refine' wo_dgetI ?h1 ?h2 ?h3 ?h4 ?_ ?h6 ?h7 ?h8); (case h1 => with_reducible assumption); (case h2 => with_reducible assumption); (case h3 => exact ⟨_, _, rfl⟩); (case h4 => exact fun _ _ => rfl); (case h6 => walk_at "vis"); (case h7 => decide); (case h8 => decide))
  | ((with_reducible refine wo_ix ?h1 ?_); (case h1 => exact fun _ _ => rfl)))
local macro_rules | `(tactic| walk_at "gCalN") => `(tactic| first
  | ((with_reducible refine wo_sortedS ?h1 ?h2 ?_ ?h4); (case h1 => rfl); (case h2 => with_reducible assumption); (case h4 => rfl))
  | ((with_reducible refine' wo_c0 ?h1 ?h2 ?h3 ?h4 ?_ ?h6 ?h7 ?h8); (case h1 => with_reducible assumption); (case h2 => with_reducible assumption); (case h3 => first | decide | exact Nat.le_refl _ | omega); (case h4 => rfl); (case h6 => decide); (case h7 => rfl); (case h8 => rfl))
  | ((with_reducible refine' wo_c1 ?h1 ?h2 ?h3 ?h4 ?_ ?h6 ?h7 ?h8); (case h1 => with_reducible assumption); (case h2 => with_reducible assumption); (case h3 => first | decide | exact Nat.le_refl _ | omega); (case h4 => rfl); (case h6 => decide); (case h7 => rfl); (case h8 => rfl))
  | ((with_reducible refine wo_len ?h1 ?h2 ?_ ?h4); (case h1 => rfl); (case h2 => with_reducible assumption); (case h4 => rfl))
  | ((with_reducible refine wo_min2 rfl ?h1 ?h2 ?_ ?h4 ?h5); (case h1 => rfl); (case h2 => with_reducible assumption); (case h4 => rfl); (case h5 => rfl))
  | ((with_reducible refine wo_max2 rfl ?h1 ?h2 ?_ ?h4 ?h5); (case h1 => rfl); (case h2 => with_reducible assumption); (case h4 => rfl); (case h5 => rfl))
  | ((with_reducible refine wo_abs ?h1 ?h2 ?_ ?h4); (case h1 => rfl); (case h2 => with_reducible assumption); (case h4 => rfl))
  | ((with_reducible refine wo_intI ?h1 ?h2 ?_ ?h4); (case h1 => rfl); (case h2 => with_reducible assumption); (case h4 => rfl))
  | ((have hmode : PtMode := by with_reducible assumption); (with_reducible refine wo_tupleF ?h1 ?h2 ?_ ?h4); (case h1 => rfl); (case h2 => with_reducible assumption); (case h4 => rfl))
  | ((with_reducible refine wo_tuple ?h1 ?h2 ?_ ?h4); (case h1 => rfl); (case h2 => with_reducible assumption); (case h4 => rfl))
  | ((with_reducible refine wo_listR1 rfl ?h1 ?h2 ?h3 ?h5 ?_ ?h4 ?h6); (case h1 => rfl); (case h2 => with_reducible assumption); (case h3 => rfl); (case h5 => with_reducible assumption); (case h4 => rfl); (case h6 => rfl))
  | ((with_reducible refine wo_dictP ?h0 ?h1 ?h2 ?_ ?h4); (case h0 => rfl); (case h1 => rfl); (case h2 => with_reducible assumption); (case h4 => rfl))
  | ((with_reducible refine wo_list ?h1 ?h2 ?_ ?h4); (case h1 => rfl); (case h2 => with_reducible assumption); (case h4 => rfl))
  | ((with_reducible refine wo_all ?h0 ?h1 ?h2 ?_ ?h4); (case h0 => rfl); (case h1 => rfl); (case h2 => with_reducible assumption); (case h4 => rfl))
  | ((with_reducible refine wo_isi2 ?h1 ?h2 ?_ ?h4 ?h5); (case h1 => rfl); (case h2 => with_reducible assumption); (case h4 => rfl); (case h5 => rfl)))
local macro_rules | `(tactic| walk_at "gCalA") => `(tactic| first
  | ((with_reducible refine' wo_dpop ?h1 ?h2 ?h3 ?h4 ?h5 ?h6 ?_ ?h8 ?h9 ?h10 ?h11); (case h1 => with_reducible assumption); (case h2 => with_reducible assumption); (case h5 => walk_at "key"); (case h3 => rfl); (case h4 => exact kN); (case h6 => rfl); (case h8 => exact fun t ht => pe_bm PySem.F.plainAttrs_list PySem.F.slot_list_pop PySem.F.type_list_pop mt_popAt ht (pa_cons pe_int pa_nil)); (case h9 => walk_at "vis"); (case h10 => decide); (case h11 => decide))
  | ((with_reducible refine' wo_append ?h1 ?h2 ?_ ?h4 ?h5 ?h6); (case h1 => with_reducible assumption); (case h2 => exact ⟨_, rfl⟩); (case h4 => exact pe_slot (by with_reducible assumption)); (case h5 => exact pe_bm PySem.F.plainAttrs_list PySem.F.slot_list_append PySem.F.type_list_append mt_append (pe_slot (by with_reducible assumption)) pa_w); (case h6 => rfl))
  | ((with_reducible refine' wo_insert ?h2 ?_ ?h4 ?h5 ?h6 ?h7); (case h4 => rfl); (case h5 => exact pe_bm PySem.F.plainAttrs_list PySem.F.slot_list_insert PySem.F.type_list_insert mt_insert (pe_slot (by with_reducible assumption)) pa_w); (case h2 => exact ⟨_, rfl⟩); (case h6 => rfl); (case h7 => rfl))
  | ((with_reducible refine' wo_popAt ?h1 ?_ ?h3 ?h4); (case h3 => exact pe_bm PySem.F.plainAttrs_list PySem.F.slot_list_pop PySem.F.type_list_pop mt_popAt (pe_slot (by with_reducible assumption)) pa_w); (case h1 => exact ⟨_, rfl⟩); (case h4 => rfl))
  | ((have hmode : PtMode := by with_reducible assumption); (with_reducible refine wo_tix ?_ ?h2 ?h3 ?h4 ?h5); (case h2 => rfl); (case h3 => rfl); (case h4 => rfl); (case h5 => rfl))
  | ((with_reducible refine' wo_indexI ?_ ?h5 ?h6); (case h5 => exact pe_bm PySem.F.plainAttrs_list PySem.F.slot_list_index PySem.F.type_list_index mt_index pe_w pa_w); (case h6 => rfl))
  | ((with_reducible refine' wo_pop ?h1 ?h2 ?h3 ?_ ?h5); (case h1 => rfl); (case h5 => exact pe_bm0 PySem.F.plainAttrs_list PySem.F.slot_list_pop PySem.F.type_list_pop mt_pop (pe_slot (by with_reducible assumption)))))
local macro_rules | `(tactic| walk_at "gWO") => `(tactic| first
  | with_reducible refine wo_not ?_
  | with_reducible refine wo_neg ?_
  | with_reducible refine wo_if ?_
  | with_reducible refine wo_dic1 ?_
  | with_reducible refine wo_dic0 ?_
  | with_reducible refine wo_dic3 ?_
  | with_reducible refine wo_lst ?_
  | with_reducible refine wo_tup ?_)
local macro_rules | `(tactic| walk_at "gWT") => `(tactic| first
  | ((with_reducible refine' wt_dne ?h1 ?h2 ?h3 ?h4 ?h5 ?h6 ?_ ?h9 ?h10 ?h11); (case h1 => with_reducible assumption); (case h2 => with_reducible assumption); (case h5 => walk_at "key"); (case h3 => rfl); (case h4 => exact kN); (case h6 => rfl); (case h9 => walk_at "vis"); (case h10 => decide); (case h11 => decide))
  | with_reducible refine wt_not ?_
  | with_reducible refine wt_bool ?_
  | ((with_reducible refine wt_chain ?_ ?h2); (case h2 => with_unfolding_all rfl))
  | ((with_reducible refine wt_cmpD ?h1 ?_); (case h1 => walk_at "mark"))
  | ((with_reducible refine wt_val ?_ ?h2); (case h2 => exact fun _ => rfl)))
local macro_rules | `(tactic| walk_at "gWW") => `(tactic| first
  | with_reducible refine ww_and ?_
  | with_reducible refine ww_and1 ?_
  | with_reducible refine ww_or ?_
  | with_reducible refine ww_or1 ?_)
local macro_rules | `(tactic| walk_at "gWA") => `(tactic| first
  | ((with_reducible refine wa_star ?_ ?h2); (case h2 => rfl))
  | ((with_reducible refine wa_cons ?_ ?h2); (case h2 => rfl))
  | with_reducible refine wa_nil ?_)
local macro_rules | `(tactic| walk_at "rest") => `(tactic| first
  | with_reducible refine wvs_cons ?_
  | with_reducible refine wvs_nil ?_
  | with_reducible refine wk_cons ?_
  | with_reducible refine wk_nil ?_
  | with_reducible refine wp_none ?_
  | with_reducible refine wp_some ?_
  | ((with_reducible refine' wtc_link ?h1 ?_); (case h1 => walk_at "ci"))
  | ((with_reducible refine' wtc_last ?h1 ?_); (case h1 => walk_at "ci")))
local macro_rules | `(tactic| walk_at "d") => `(tactic| first
  | ((with_reducible refine DL.gWSs ?_); walk_at "gWSs")
  | ((with_reducible refine DL.gWS ?_); walk_at "gWS")
  | ((with_reducible refine DL.gWG ?_); walk_at "gWG")
  | ((with_reducible refine DL.gENm ?_); walk_at "gENm")
  | ((with_reducible refine DL.gWE ?_); walk_at "gWE")
  | ((with_reducible refine DL.gName ?_); walk_at "gName")
  | ((with_reducible refine DL.gCon ?_); walk_at "gCon")
  | ((with_reducible refine DL.gBin ?_); walk_at "gBin")
  | ((with_reducible refine DL.gBool ?_); walk_at "gBool")
  | ((with_reducible refine DL.gCmp ?_); walk_at "gCmp")
  | ((with_reducible refine DL.gSub ?_); walk_at "gSub")
  | ((with_reducible refine DL.gCalN ?_); walk_at "gCalN")
  | ((with_reducible refine DL.gCalA ?_); walk_at "gCalA")
  | ((with_reducible refine DL.gWO ?_); walk_at "gWO")
  | ((with_reducible refine DL.gWT ?_); walk_at "gWT")
  | ((with_reducible refine DL.gWW ?_); walk_at "gWW")
  | ((with_reducible refine DL.gWA ?_); walk_at "gWA")
  | walk_at "rest"
  | walk_at "ob")
local macro_rules | `(tactic| walk_at "go") => `(tactic| repeat walk_at "d")
section
def top (i : Nat) : Stmt := PySem.Challenge.pw_asifcopied_k00_heaps_judged.main.body.getD i (.Pass ⟨0, 0, 0, 0⟩)
abbrev s_is_whole : Stmt := top 7
theorem sc_is_whole : FnScope ["value"] ["value"] (defScope s_is_whole) := ⟨rfl, rfl, rfl, by decide +kernel, rfl, by decide +kernel, by decide +kernel⟩
abbrev s_is_number : Stmt := top 8
theorem sc_is_number : FnScope ["value", "low"] ["value", "low"] (defScope s_is_number) := ⟨rfl, rfl, rfl, by decide +kernel, rfl, by decide +kernel, by decide +kernel⟩
abbrev s_is_wide : Stmt := top 9
theorem sc_is_wide : FnScope ["value"] ["value"] (defScope s_is_wide) := ⟨rfl, rfl, rfl, by decide +kernel, rfl, by decide +kernel, by decide +kernel⟩
abbrev s_need_wide : Stmt := top 10
theorem sc_need_wide : FnScope ["wide"] ["wide"] (defScope s_need_wide) := ⟨rfl, rfl, rfl, by decide +kernel, rfl, by decide +kernel, by decide +kernel⟩
abbrev s_is_pointer : Stmt := top 11
theorem sc_is_pointer : FnScope ["value"] ["value"] (defScope s_is_pointer) := ⟨rfl, rfl, rfl, by decide +kernel, rfl, by decide +kernel, by decide +kernel⟩
abbrev s_is_value : Stmt := top 12
theorem sc_is_value : FnScope ["value", "many"] ["value", "many"] (defScope s_is_value) := ⟨rfl, rfl, rfl, by decide +kernel, rfl, by decide +kernel, by decide +kernel⟩
abbrev s_is_record : Stmt := top 13
theorem sc_is_record : FnScope ["value", "wide", "many", "item"] ["value", "wide", "many"] (defScope s_is_record) := ⟨rfl, rfl, rfl, by decide +kernel, rfl, by decide +kernel, by decide +kernel⟩
abbrev s_is_heap : Stmt := top 14
theorem sc_is_heap : FnScope ["value", "wide", "record"] ["value", "wide"] (defScope s_is_heap) := ⟨rfl, rfl, rfl, by decide +kernel, rfl, by decide +kernel, by decide +kernel⟩
abbrev s_need_heap : Stmt := top 15
theorem sc_need_heap : FnScope ["heap", "wide"] ["heap", "wide"] (defScope s_need_heap) := ⟨rfl, rfl, rfl, by decide +kernel, rfl, by decide +kernel, by decide +kernel⟩
abbrev s_pointed : Stmt := top 17
theorem sc_pointed : FnScope ["heap", "wide", "found", "record", "value"] ["heap", "wide"] (defScope s_pointed) := ⟨rfl, rfl, rfl, by decide +kernel, rfl, by decide +kernel, by decide +kernel⟩
abbrev s_met : Stmt := top 18
theorem sc_met : FnScope ["heap", "order", "known", "at", "value"] ["heap"] (defScope s_met) := ⟨rfl, rfl, rfl, by decide +kernel, rfl, by decide +kernel, by decide +kernel⟩
abbrev s_reached : Stmt := top 19
theorem sc_reached : FnScope ["heap", "wide"] ["heap", "wide"] (defScope s_reached) := ⟨rfl, rfl, rfl, by decide +kernel, rfl, by decide +kernel, by decide +kernel⟩
abbrev s_seen : Stmt := top 20
theorem sc_seen : FnScope ["heap", "wide", "order", "place", "at", "record", "value"] ["heap", "wide"] (defScope s_seen) := ⟨rfl, rfl, rfl, by decide +kernel, rfl, by decide +kernel, by decide +kernel⟩
abbrev s_look_alike : Stmt := top 21
theorem sc_look_alike : FnScope ["one", "other", "wide"] ["one", "other", "wide"] (defScope s_look_alike) := ⟨rfl, rfl, rfl, by decide +kernel, rfl, by decide +kernel, by decide +kernel⟩
abbrev s_law_begun : Stmt := top 23
theorem sc_law_begun : FnScope ["script", "great", "cell"] ["script"] (defScope s_law_begun) := ⟨rfl, rfl, rfl, by decide +kernel, rfl, by decide +kernel, by decide +kernel⟩
abbrev s_law_blended : Stmt := top 24
theorem sc_law_blended : FnScope ["state", "turn", "found", "prime", "blend", "cell"] ["state"] (defScope s_law_blended) := ⟨rfl, rfl, rfl, by decide +kernel, rfl, by decide +kernel, by decide +kernel⟩
abbrev s_law_draw : Stmt := top 25
theorem sc_law_draw : FnScope ["state", "size_here", "found"] ["state", "size_here"] (defScope s_law_draw) := ⟨rfl, rfl, rfl, by decide +kernel, rfl, by decide +kernel, by decide +kernel⟩
abbrev s_law_pick : Stmt := top 26
theorem sc_law_pick : FnScope ["state", "several"] ["state", "several"] (defScope s_law_pick) := ⟨rfl, rfl, rfl, by decide +kernel, rfl, by decide +kernel, by decide +kernel⟩
abbrev s_law_caught : Stmt := top 27
theorem sc_law_caught : FnScope ["work", "caught", "error"] ["work"] (defScope s_law_caught) := ⟨rfl, rfl, rfl, by decide +kernel, rfl, by decide +kernel, by decide +kernel⟩
abbrev s_law_is_truth : Stmt := top 28
theorem sc_law_is_truth : FnScope ["found", "due"] ["found", "due"] (defScope s_law_is_truth) := ⟨rfl, rfl, rfl, by decide +kernel, rfl, by decide +kernel, by decide +kernel⟩
abbrev s_law_is_whole : Stmt := top 29
theorem sc_law_is_whole : FnScope ["item"] ["item"] (defScope s_law_is_whole) := ⟨rfl, rfl, rfl, by decide +kernel, rfl, by decide +kernel, by decide +kernel⟩
abbrev s_law_as_value : Stmt := top 30
theorem sc_law_as_value : FnScope ["state", "many", "way"] ["state", "many"] (defScope s_law_as_value) := ⟨rfl, rfl, rfl, by decide +kernel, rfl, by decide +kernel, by decide +kernel⟩
abbrev s_law_as_deed : Stmt := top 31
theorem sc_law_as_deed : FnScope ["state", "wide", "many", "most", "found", "turn", "at"] ["state", "wide", "many", "most"] (defScope s_law_as_deed) := ⟨rfl, rfl, rfl, by decide +kernel, rfl, by decide +kernel, by decide +kernel⟩
abbrev s_law_as_story : Stmt := top 32
theorem sc_law_as_story : FnScope ["state", "wide", "versions", "most", "found", "sizes_here", "lined", "turn", "parent", "deed", "change"] ["state", "wide", "versions", "most"] (defScope s_law_as_story) := ⟨rfl, rfl, rfl, by decide +kernel, rfl, by decide +kernel, by decide +kernel⟩
abbrev s_law_as_done : Stmt := top 33
theorem sc_law_as_done : FnScope ["heap_here", "deed", "records_here", "change", "record"] ["heap_here", "deed"] (defScope s_law_as_done) := ⟨rfl, rfl, rfl, by decide +kernel, rfl, by decide +kernel, by decide +kernel⟩
abbrev s_law_as_heaps : Stmt := top 34
theorem sc_law_as_heaps : FnScope ["wide", "story_here", "found", "parent", "deed"] ["wide", "story_here"] (defScope s_law_as_heaps) := ⟨rfl, rfl, rfl, by decide +kernel, rfl, by decide +kernel, by decide +kernel⟩
abbrev s_law_as_odd : Stmt := top 35
theorem sc_law_as_odd : FnScope ["state", "some"] ["state"] (defScope s_law_as_odd) := ⟨rfl, rfl, rfl, by decide +kernel, rfl, by decide +kernel, by decide +kernel⟩
abbrev s_law_as_bent : Stmt := top 36
theorem sc_law_as_bent : FnScope ["state", "item", "at", "way"] ["state", "item"] (defScope s_law_as_bent) := ⟨rfl, rfl, rfl, by decide +kernel, rfl, by decide +kernel, by decide +kernel⟩
abbrev s_law_k00_is_value : Stmt := top 37
theorem sc_law_k00_is_value : FnScope ["value", "many"] ["value", "many"] (defScope s_law_k00_is_value) := ⟨rfl, rfl, rfl, by decide +kernel, rfl, by decide +kernel, by decide +kernel⟩
abbrev s_law_k00_is_heap : Stmt := top 38
theorem sc_law_k00_is_heap : FnScope ["value", "wide", "record", "item"] ["value", "wide"] (defScope s_law_k00_is_heap) := ⟨rfl, rfl, rfl, by decide +kernel, rfl, by decide +kernel, by decide +kernel⟩
abbrev s_law : Stmt := top 39
theorem sc_law : FnScope ["script", "state", "lap", "wide", "heap_here", "bent", "value", "odd", "works", "work", "many", "due", "caught"] ["script"] (defScope s_law) := ⟨rfl, rfl, rfl, by decide +kernel, rfl, by decide +kernel, by decide +kernel⟩
def G_MOST_NUMBER : Int := 1000000000000000000
def G_MOST_WIDE : Int := 6
structure Fz (K : PySem.W.Frag) (mg : Str → Option Value) : Prop where
  d_is_whole : Has K mg "is_whole" s_is_whole ["value"]
  d_is_number : Has K mg "is_number" s_is_number ["value", "low"]
  d_is_wide : Has K mg "is_wide" s_is_wide ["value"]
  d_need_wide : Has K mg "need_wide" s_need_wide ["wide"]
  d_is_pointer : Has K mg "is_pointer" s_is_pointer ["value"]
  d_is_value : Has K mg "is_value" s_is_value ["value", "many"]
  d_is_record : Has K mg "is_record" s_is_record ["value", "wide", "many"]
  d_is_heap : Has K mg "is_heap" s_is_heap ["value", "wide"]
  d_need_heap : Has K mg "need_heap" s_need_heap ["heap", "wide"]
  d_pointed : Has K mg "pointed" s_pointed ["heap", "wide"]
  d_met : Has K mg "met" s_met ["heap"]
  d_reached : Has K mg "reached" s_reached ["heap", "wide"]
  d_seen : Has K mg "seen" s_seen ["heap", "wide"]
  d_look_alike : Has K mg "look_alike" s_look_alike ["one", "other", "wide"]
  d_law_begun : Has K mg "_law_begun" s_law_begun ["script"]
  d_law_blended : Has K mg "_law_blended" s_law_blended ["state"]
  d_law_draw : Has K mg "_law_draw" s_law_draw ["state", "size_here"]
  d_law_pick : Has K mg "_law_pick" s_law_pick ["state", "several"]
  d_law_caught : Has K mg "_law_caught" s_law_caught ["work"]
  d_law_is_truth : Has K mg "_law_is_truth" s_law_is_truth ["found", "due"]
  d_law_is_whole : Has K mg "_law_is_whole" s_law_is_whole ["item"]
  d_law_as_value : Has K mg "_law_as_value" s_law_as_value ["state", "many"]
  d_law_as_deed : Has K mg "_law_as_deed" s_law_as_deed ["state", "wide", "many", "most"]
  d_law_as_story : Has K mg "_law_as_story" s_law_as_story ["state", "wide", "versions", "most"]
  d_law_as_done : Has K mg "_law_as_done" s_law_as_done ["heap_here", "deed"]
  d_law_as_heaps : Has K mg "_law_as_heaps" s_law_as_heaps ["wide", "story_here"]
  d_law_as_odd : Has K mg "_law_as_odd" s_law_as_odd ["state"]
  d_law_as_bent : Has K mg "_law_as_bent" s_law_as_bent ["state", "item"]
  d_law_k00_is_value : Has K mg "_law_k00_is_value" s_law_k00_is_value ["value", "many"]
  d_law_k00_is_heap : Has K mg "_law_k00_is_heap" s_law_k00_is_heap ["value", "wide"]
  d_law : Has K mg "law" s_law ["script"]
  b_abs : mg "abs" = none
  b_all : mg "all" = none
  b_bool : mg "bool" = none
  b_enumerate : mg "enumerate" = none
  b_int : mg "int" = none
  b_isinstance : mg "isinstance" = none
  b_len : mg "len" = none
  b_list : mg "list" = none
  b_min : mg "min" = none
  b_range : mg "range" = none
  b_sorted : mg "sorted" = none
  b_str : mg "str" = none
  b_tuple : mg "tuple" = none
  g_MOST_NUMBER : ∃ t, mg "MOST_NUMBER" = some (.int G_MOST_NUMBER t)
  g_MOST_WIDE : ∃ t, mg "MOST_WIDE" = some (.int G_MOST_WIDE t)
  c_CopyError : ∃ C : Addr, mg "CopyError" = some (.ref C)
  c_BadHeap : ∃ C : Addr, mg "BadHeap" = some (.ref C)
  x_BadHeap : ExF K mg "BadHeap"
  y_BadHeap : ∀ C : Addr, mg "BadHeap" = some (.ref C) → L2.ExcC K C
  c_BadWide : ∃ C : Addr, mg "BadWide" = some (.ref C)
  x_BadWide : ExF K mg "BadWide"
  y_BadWide : ∀ C : Addr, mg "BadWide" = some (.ref C) → L2.ExcC K C
end
section
section
variable {P : Program} {w : World} {K : PySem.W.Frag} {mg : Str → Option Value} {base : Heap}
theorem ten18 : (10 : Int) ^ (Int.toNat 18) = 1000000000000000000 := by decide
theorem absI {i : Int} : 0 ≤ (if i < 0 then -i else i) := by split <;> omega
theorem src_ints {xs : List Int} {j : Nat} (h : j < xs.length) : (xs.map D.int).getD j .non = .int xs[j] := by rw [getD_ints h, List.getD_eq_getElem?_getD, List.getElem?_eq_getElem h]; rfl
theorem fm_ints {G : Int → Option Int} {xs : List Int} : xs.filterMap (fun c => (G c).map D.int) = (xs.filterMap G).map D.int := by rw [List.map_filterMap]
theorem cal_law_begun (Z : Fz K mg) : Cal P w K mg base 1 "_law_begun" (toSp K 0 ct_law_begun) := by
  refine cal_of Z.d_law_begun sc_law_begun (fun a ds h => by rw [h.1]; rfl) (by decide) ?_
  intro f cdv A outer s H E hr (a : List Int ) ds hp X
  have hNd : X.N.Nodup := sc_law_begun.nd
  have hN0 : X.N[0]? = some ("script" : Str) := rfl
  have hN1 : X.N[1]? = some ("great" : Str) := rfl
  have hN2 : X.N[2]? = some ("cell" : Str) := rfl
  have hR : Room 0 X.A := hr
  have hu64 : X.A.units + 64 < cLine := by have := hR.un; omega
  have hu1 : X.A.units + 1 < cLine := by have := hR.un; omega
  have m_abs : X.mg "abs" = none := Z.b_abs
  obtain ⟨hds, hp⟩ := hp
  subst hds
  show WSs X [] (_ :: _) [ some (D.fz (a.map D.int)), none, none] _
  walk_at "go"
  refine' ws_setLcX (own := [("cell", 2)]) rfl hNd hN1 rfl (by decide) ?ok ?hg ?_ ?sw ?hs
  case ok => exact (show BlkOk ["script", "great", "cell"] (defScope s_law_begun) _ [("cell", 2)] from ⟨rfl, by decide +kernel, by decide +kernel, by decide +kernel, by decide +kernel⟩)
  case hs => exact fun _ => rfl
  case sw => exact sw_true rfl rfl rfl rfl
  case hg => exact blk_name hNd hN2 rfl
  refine wi_lst ?_
  walk_at "go"
  rw [List.length_map]
  refine ⟨Int, a, D.int, fun c => (if (if c < 0 then -c else c) ≥ 1000000000000000000 then some ((if c < 0 then -c else c) - 1000000000000000000) else none).map D.int, rfl, by omega, fun j h => src_ints h, (fun p h => nomatch h), ?_, ?_⟩
  · intro c hc
    refine ⟨_, tgb_name (by decide) (Nat.le_of_ble_eq_true rfl), fun s H C cl fp => ?_⟩
    try dsimp only [List.set]
    refine wif_one ?_
    walk_at "go"
    rw [ten18]
    refine ⟨fun ht s H C cl fp => ?_, fun hf => ⟨by rw [if_neg (of_decide_eq_false hf)]; rfl, rfl⟩⟩
    walk_at "go"
    rw [ten18]
    exact ⟨by rw [if_pos (of_decide_eq_true ht)]; rfl, rfl⟩
  · rw [fm_ints]
    refine ⟨Nat.le_of_ble_eq_true rfl, ?_⟩
    dsimp only [List.set, wipeE, List.map]
    show WSs _ _ _ _ _
    walk_at "go"
    refine wo_disp (zs := ["great", "cells", "left", "turn"]) (pe_disp (pps_cons pe_str pe_w (pps_cons pe_str pe_w (pps_cons pe_str pe_w (pps_cons pe_str pe_w pps_nil)))) rfl rfl (by decide) (by decide)) rfl (by decide) (by decide) ?_
    walk_at "go"
    refine wo_freeze ?_
    refine' wo_lcX (own := [("cell", 2)]) rfl hNd ?ok ?hg ?_ ?hs
    case ok => exact (show BlkOk ["script", "great", "cell"] (defScope s_law_begun) _ [("cell", 2)] from ⟨rfl, by decide +kernel, by decide +kernel, by decide +kernel, by decide +kernel⟩)
    case hs => exact fun _ => rfl
    case hg => exact blk_name hNd hN2 rfl
    refine wi_lst ?_
    walk_at "go"
    rw [List.length_map]
    refine ⟨Int, a, D.int, fun c => (some (if c < 0 then -c else c)).map D.int, rfl, by omega, fun j h => src_ints h, (fun p h => nomatch h), ?_, ?_⟩
    · intro c hc
      refine ⟨_, tgb_name (by decide) (Nat.le_of_ble_eq_true rfl), fun s H C cl fp => ?_⟩
      try dsimp only [List.set]
      refine wif_nil ⟨fun _ s H C cl fp => ?_, fun h => Bool.noConfusion h⟩
      walk_at "go"
      exact ⟨rfl, rfl⟩
    · rw [fm_ints]
      refine ⟨_, rfl, imms_ints, ?_⟩
      walk_at "go"
      refine ⟨[], rfl, ⟨_, _, 0, 0⟩, rfl, fun x hx => ?_, fun x hx => ?_, Int.le_refl _, Int.le_refl _, Int.le_refl _⟩
      · obtain ⟨c, _, h⟩ := List.mem_filterMap.mp hx
        revert h
        generalize (if c < 0 then -c else c) = y
        intro h
        split at h
        · cases h
          omega
        · cases h
      · obtain ⟨c, _, h⟩ := List.mem_filterMap.mp hx
        cases h
        exact absI
theorem prime3 {j : Nat} (h : j < 3) : ∃ p, ([D.int 2147483353, D.int 2147483323, D.int 2147483269] : List D).getD j .non = .int p ∧ 2147483000 < p ∧ p < 2147483648 := by
  rcases j with _ | _ | _ | j
  · exact ⟨_, rfl, by decide, by decide⟩
  · exact ⟨_, rfl, by decide, by decide⟩
  · exact ⟨_, rfl, by decide, by decide⟩
  · omega
theorem cal_law_blended (Z : Fz K mg) : Cal P w K mg base 1 "_law_blended" (toSp K 1 ct_law_blended) := by
  refine cal_of Z.d_law_blended sc_law_blended (fun a ds h => by rw [h.1]; rfl) (by decide) ?_
  intro f cdv A outer s H E hr (a : Sta × Int ) ds hp X
  have hNd : X.N.Nodup := sc_law_blended.nd
  have hN0 : X.N[0]? = some ("state" : Str) := rfl
  have hN1 : X.N[1]? = some ("turn" : Str) := rfl
  have hN2 : X.N[2]? = some ("found" : Str) := rfl
  have hN3 : X.N[3]? = some ("prime" : Str) := rfl
  have hN4 : X.N[4]? = some ("blend" : Str) := rfl
  have hN5 : X.N[5]? = some ("cell" : Str) := rfl
  have hR : Room 0 X.A := hr
  have hu64 : X.A.units + 64 < cLine := by have := hR.un; omega
  have hu1 : X.A.units + 1 < cLine := by have := hR.un; omega
  have m_int : X.mg "int" = none := Z.b_int
  obtain ⟨hds, hp⟩ := hp
  subst hds
  show WSs X [0] (_ :: _) [ some (sD a.1), none, none, none, none, none] _
  obtain ⟨⟨g, c, l, t⟩, n⟩ := a
  obtain ⟨ok, hn⟩ := hp
  have ht0 := ok.t0
  have ht1 := ok.t1
  dsimp only at ht0 ht1 hn
  refine wss_cons ?_
  refine' ws_par rfl hNd hN1 hN2 (by decide) (by decide) (by decide) rfl rfl ?_ ?hw ?hs
  case hw => rfl
  case hs => rfl
  walk_at "go"
  refine ⟨kS, _, 3, _, rfl, kN, rfl, rfl, trivial, trivial, by decide, ?_⟩
  dsimp only [List.set]
  show WSs _ _ _ (some (stD g c l (t + 1)) :: _) _
  refine wss_cons ?_
  refine ws_for PassesOwn.never rfl ?_
  refine wi_lst ?_
  walk_at "go"
  refine ⟨⟨trivial, trivial, trivial, trivial⟩, ?_⟩
  refine ⟨fun n E' => ∃ f o1 o2 o3, 0 ≤ f ∧ E' = [some (stD g c l (t + 1)), some (.int (t + 1)), some (.int f), o1, o2, o3], ⟨0, none, none, none, Int.le_refl _, rfl⟩, (fun _ _ _ _ p h => nomatch h), ?_, ?_⟩
  · rintro j E' hj ⟨f, o1, o2, o3, hf, rfl⟩
    obtain ⟨p, ep, p0, p1⟩ := prime3 hj
    rw [ep]
    walk_at "go"
    refine ws_for PassesOwn.never rfl ?_
    refine wi_lst ?_
    walk_at "go"
    refine ⟨fun n E' => ∃ b o3, (0 ≤ b ∧ b < 18446744073709551616) ∧ E' = [some (stD g c l (t + 1)), some (.int (t + 1)), some (.int f), some (.int p), some (.int b), o3], ?_, (fun _ _ _ _ p h => nomatch h), ?_, ?_⟩
    · exact ⟨_, _, ⟨by omega, by omega⟩, rfl⟩
    · rintro k E' hk ⟨b, o3, hb, rfl⟩
      rw [List.length_map] at hk
      show WG _ _ _ ((c.map D.int).getD k .non) _ _
      rw [getD_ints hk]
      generalize c.getD k 0 = x
      walk_at "go"
      exact ⟨_, _, ⟨Int.emod_nonneg _ (by omega), Int.lt_trans (Int.emod_lt_of_pos _ (by omega)) (by omega)⟩, rfl⟩
    · rintro E' ⟨b, o3, hb, rfl⟩
      walk_at "go"
      refine ⟨_, _, _, _, ?_, rfl⟩
      have h1 : 0 ≤ f * 2147483647 := Int.mul_nonneg hf (by decide)
      have h2 : 0 ≤ (b ^ (Int.toNat 5)) % p := Int.emod_nonneg _ (by omega)
      omega
  · rintro E' ⟨f, o1, o2, o3, hf, rfl⟩
    walk_at "go"
    exact ⟨[stD g c l (t + 1)], rfl, f, rfl, hf, rfl⟩
theorem cal_law_draw (Z : Fz K mg) : Cal P w K mg base 2 "_law_draw" (toSp K 1 ct_law_draw) := by
  refine cal_of Z.d_law_draw sc_law_draw (fun a ds h => by rw [h.1]; rfl) (by decide) ?_
  intro f cdv A outer s H E hr (a : Sta × Int × Int ) ds hp X
  have hNd : X.N.Nodup := sc_law_draw.nd
  have hN0 : X.N[0]? = some ("state" : Str) := rfl
  have hN1 : X.N[1]? = some ("size_here" : Str) := rfl
  have hN2 : X.N[2]? = some ("found" : Str) := rfl
  have hR : Room 1 X.A := hr
  have hu64 : X.A.units + 64 < cLine := by have := hR.un; omega
  have hu1 : X.A.units + 1 < cLine := by have := hR.un; omega
  have m_int : X.mg "int" = none := Z.b_int
  have c_law_blended : Cal X.prog X.w X.K X.mg X.base 1 "_law_blended" (toSp X.K 1 ct_law_blended) := cal_law_blended Z
  obtain ⟨hds, hp⟩ := hp
  subst hds
  show WSs X [0] (_ :: _) [ some (sD a.1), some (D.int a.2.1), none] _
  obtain ⟨⟨g, c, l, t⟩, sz, n⟩ := a
  obtain ⟨ok, ⟨hs0, hs1⟩, hn⟩ := hp
  have ht0 := ok.t0
  have ht1 := ok.t1
  have l0 := ok.l0
  dsimp only at ok ht0 ht1 l0 hs0 hs1 hn ⊢
  refine wss_cut (fun E' => ∃ g' l' t', SOk (n + 1) ⟨g', c, l', t'⟩ ∧ E' = [some (stD g' c l' t'), some (.int sz), none]) ?_ ?_
  · walk_at "go"
    refine ⟨fun h => ?_, fun h => wss_nil ⟨g, l, t, ok.mono (by omega), rfl⟩⟩
    walk_at "go"
    refine ⟨fun h2 => ?_, fun h2 => ?_⟩
    · cases g with
      | nil => cases h2
      | cons g0 gs =>
        walk_at "go"
        refine ⟨kS, _, 2, _, rfl, kN, rfl, rfl, trivial, trivial, by decide, ?_⟩
        exact ⟨gs, g0, t, ⟨fun x hx => ok.g0 x (List.mem_cons_of_mem _ hx), ok.c0, ok.g0 g0 List.mem_cons_self, ht0, (by dsimp only; omega)⟩, rfl⟩
    · walk_at "go"
      refine ⟨(⟨g, c, l, t⟩, n), ⟨rfl, ok, hn⟩, ?_⟩
      rintro d d0 ⟨r, rfl, hr0, hd⟩
      cases hd
      dsimp only [List.set]
      refine ⟨_, rfl, kS, _, 2, _, rfl, kN, rfl, rfl, trivial, trivial, by decide, ?_⟩
      exact ⟨g, r, t + 1, ⟨ok.g0, ok.c0, hr0, by dsimp only; omega, by dsimp only; omega⟩, rfl⟩
  · rintro E' ⟨g', l', t', ok', rfl⟩
    have l0' := ok'.l0
    dsimp only at l0'
    walk_at "go"
    refine ⟨kS, _, 2, _, rfl, kN, rfl, rfl, trivial, trivial, by decide, ?_⟩
    dsimp only [List.set]
    show WSs _ _ _ (some (stD g' c (l' / sz) t') :: _) _
    walk_at "go"
    exact ⟨[stD g' c (l' / sz) t'], rfl, _, ⟨g', c, l' / sz, t'⟩, rfl, ⟨Int.emod_nonneg _ (by omega), Int.emod_lt_of_pos _ hs0⟩, rfl, ⟨ok'.g0, ok'.c0, Int.ediv_nonneg l0' (by omega), ok'.t0, ok'.t1⟩⟩
theorem cal_law_pick (Z : Fz K mg) : Cal P w K mg base 3 "_law_pick" (toSp K 1 ct_law_pick) := by
  refine cal_of Z.d_law_pick sc_law_pick (fun a ds h => by rw [h.1]; rfl) (by decide) ?_
  intro f cdv A outer s H E hr (a : Sta × Int × D × List D ) ds hp X
  have hNd : X.N.Nodup := sc_law_pick.nd
  have hN0 : X.N[0]? = some ("state" : Str) := rfl
  have hN1 : X.N[1]? = some ("several" : Str) := rfl
  have hR : Room 2 X.A := hr
  have hu64 : X.A.units + 64 < cLine := by have := hR.un; omega
  have hu1 : X.A.units + 1 < cLine := by have := hR.un; omega
  have c_law_draw : Cal X.prog X.w X.K X.mg X.base 2 "_law_draw" (toSp X.K 1 ct_law_draw) := cal_law_draw Z
  have m_len : X.mg "len" = none := Z.b_len
  obtain ⟨hds, hp⟩ := hp
  subst hds
  show WSs X [0] (_ :: _) [ some (sD a.1), some a.2.2.1] _
  obtain ⟨s, n, d, ds⟩ := a
  obtain ⟨ok, hseq, im, ⟨l0, l1⟩, hn⟩ := hp
  dsimp only at ok hseq im l0 l1 hn ⊢
  walk_at "go"
  refine ⟨ds, hseq, ?_⟩
  walk_at "go"
  refine ⟨(_, _, _), ⟨rfl, by with_reducible assumption, by dsimp only; (try simp only [ncast]); omega, by dsimp only; omega⟩, ?_⟩
  rintro _ _ ⟨r, s1, rfl, hr, hd, oks1⟩
  cases hd
  dsimp only at hr oks1
  try simp only [ncast] at hr
  dsimp only [List.set]
  obtain ⟨x, hx⟩ : ∃ x, ds[r.toNat]? = some x := ⟨_, List.getElem?_eq_getElem (by omega)⟩
  refine ⟨ds, r, x, hseq, rfl, by rw [ix_nat hr.1]; exact hx, imms_get im hx, ?_⟩
  walk_at "go"
  exact ⟨[sD s1], rfl, s1, List.mem_of_getElem? hx, rfl, oks1⟩
end
end
section
/-! ### promises of the checks, of heaps that are right -/
def ct_is_whole : Ct := ⟨HV, fun v ds => ds = [hvD v] ∧ v.ok 1000000000000000000, fun v d _ => d = .bl v.isN⟩
def ct_is_number : Ct := ⟨Int × Int, fun i ds => ds = [.int i.1, .int i.2] ∧ -1000000000000000000 < i.1 ∧ i.1 < 1000000000000000000, fun i d _ => d = .bl (decide (i.2 ≤ i.1))⟩
def ct_is_wide : Ct := ⟨Int, fun i ds => ds = [.int i] ∧ 1 ≤ i ∧ i ≤ 6, fun _ d _ => d = .bl true⟩
def ct_need_wide : Ct := ⟨Int, fun i ds => ds = [.int i] ∧ 1 ≤ i ∧ i ≤ 6, fun _ d _ => d = .non⟩
def ct_is_pointer : Ct := ⟨HV, fun v ds => ds = [hvD v] ∧ v.ok 1000000000000000000, fun v d _ => d = .bl v.isP⟩
def ct_is_value : Ct := ⟨HV × Nat, fun v ds => ds = [hvD v.1, .int v.2] ∧ v.1.ok v.2 ∧ v.2 ≤ 100000, fun _ d _ => d = .bl true⟩
def ct_is_record : Ct := ⟨Rec × Nat × Nat, fun v ds => ds = [recD v.1, .int v.2.1, .int v.2.2] ∧ v.1.length = v.2.1 ∧ v.2.1 ≤ 6 ∧ (∀ x ∈ v.1, x.ok v.2.2) ∧ v.2.2 ≤ 100000, fun _ d _ => d = .bl true⟩
def ct_is_heap : Ct := ⟨Hea × Nat, fun v ds => ds = [heaD v.1, .int v.2] ∧ WfH v.2 v.1, fun _ d _ => d = .bl true⟩
def ct_need_heap : Ct := ⟨Hea × Nat, fun v ds => ds = [heaD v.1, .int v.2] ∧ WfH v.2 v.1, fun _ d _ => d = .non⟩
theorem kit_ni : kitB "NoneType" "int" = some false := by decide +kernel
theorem kit_nt : kitB "NoneType" "tuple" = some false := by decide +kernel
local macro_rules | `(tactic| walk_at "kit") => `(tactic| first | with_reducible exact kit_ii | with_reducible exact kit_ib | with_reducible exact kit_it | with_reducible exact kit_tt | with_reducible exact kit_ti | with_reducible exact kit_bb | with_reducible exact kit_bi | with_reducible exact kit_ll | with_reducible exact kit_dd | with_reducible exact kit_ss | with_reducible exact kit_ni | with_reducible exact kit_nt)
section
variable {P : Program} {w : World} {K : PySem.W.Frag} {mg : Str → Option Value} {base : Heap}
theorem cal_is_whole (Z : Fz K mg) : Cal P w K mg base 1 "is_whole" (toSp K 0 ct_is_whole) := by
  refine cal_of Z.d_is_whole sc_is_whole (fun a ds h => by rw [h.1]; rfl) (by decide) ?_
  intro f cdv A outer s H E hr (a : HV ) ds hp X
  have hNd : X.N.Nodup := sc_is_whole.nd
  have hN0 : X.N[0]? = some ("value" : Str) := rfl
  have hR : Room 0 X.A := hr
  have hu64 : X.A.units + 64 < cLine := by have := hR.un; omega
  have hu1 : X.A.units + 1 < cLine := by have := hR.un; omega
  have m_isinstance : X.mg "isinstance" = none := Z.b_isinstance
  have m_int : X.mg "int" = none := Z.b_int
  obtain ⟨t_MOST_NUMBER, g_MOST_NUMBER⟩ : ∃ t, X.mg "MOST_NUMBER" = some (.int G_MOST_NUMBER t) := Z.g_MOST_NUMBER
  have m_bool : X.mg "bool" = none := Z.b_bool
  have m_abs : X.mg "abs" = none := Z.b_abs
  obtain ⟨hds, hp⟩ := hp
  subst hds
  show WSs X [] (_ :: _) [ some (hvD a)] _
  rcases a with _ | i | n
  · show WSs X [] (_ :: _) [some D.non] _
    walk_at "go"
    exact ⟨[], rfl, rfl⟩
  · have hi : -1000000000000000000 < i ∧ i < 1000000000000000000 := hp
    show WSs X [] (_ :: _) [some (D.int i)] _
    walk_at "go"
    refine ⟨[], rfl, congrArg D.bl (decide_eq_true ?_)⟩
    unfold G_MOST_NUMBER
    split <;> omega
  · show WSs X [] (_ :: _) [some (D.tup [.str toS, .int n])] _
    walk_at "go"
    exact ⟨[], rfl, rfl⟩
theorem cal_is_number (Z : Fz K mg) : Cal P w K mg base 2 "is_number" (toSp K 0 ct_is_number) := by
  refine cal_of Z.d_is_number sc_is_number (fun a ds h => by rw [h.1]; rfl) (by decide) ?_
  intro f cdv A outer s H E hr (a : Int × Int ) ds hp X
  have hNd : X.N.Nodup := sc_is_number.nd
  have hN0 : X.N[0]? = some ("value" : Str) := rfl
  have hN1 : X.N[1]? = some ("low" : Str) := rfl
  have hR : Room 1 X.A := hr
  have hu64 : X.A.units + 64 < cLine := by have := hR.un; omega
  have hu1 : X.A.units + 1 < cLine := by have := hR.un; omega
  have c_is_whole : Cal X.prog X.w X.K X.mg X.base 1 "is_whole" (toSp X.K 0 ct_is_whole) := cal_is_whole Z
  obtain ⟨hds, hp⟩ := hp
  subst hds
  show WSs X [] (_ :: _) [ some (D.int a.1), some (D.int a.2)] _
  walk_at "go"
  refine ⟨.num a.1, ⟨rfl, hp⟩, fun d hd => ?_⟩
  have hd : d = .bl true := hd
  subst hd
  walk_at "go"
  exact ⟨[], rfl, rfl⟩
theorem cal_is_wide (Z : Fz K mg) : Cal P w K mg base 3 "is_wide" (toSp K 0 ct_is_wide) := by
  refine cal_of Z.d_is_wide sc_is_wide (fun a ds h => by rw [h.1]; rfl) (by decide) ?_
  intro f cdv A outer s H E hr (a : Int ) ds hp X
  have hNd : X.N.Nodup := sc_is_wide.nd
  have hN0 : X.N[0]? = some ("value" : Str) := rfl
  have hR : Room 2 X.A := hr
  have hu64 : X.A.units + 64 < cLine := by have := hR.un; omega
  have hu1 : X.A.units + 1 < cLine := by have := hR.un; omega
  have c_is_number : Cal X.prog X.w X.K X.mg X.base 2 "is_number" (toSp X.K 0 ct_is_number) := cal_is_number Z
  obtain ⟨t_MOST_WIDE, g_MOST_WIDE⟩ : ∃ t, X.mg "MOST_WIDE" = some (.int G_MOST_WIDE t) := Z.g_MOST_WIDE
  obtain ⟨hds, hp⟩ := hp
  subst hds
  show WSs X [] (_ :: _) [ some (D.int a)] _
  walk_at "go"
  refine ⟨(a, 1), ⟨rfl, by dsimp only; omega, by dsimp only; omega⟩, fun d hd => ?_⟩
  have hd : d = .bl true := hd.trans (congrArg D.bl (decide_eq_true hp.1))
  subst hd
  walk_at "go"
  exact ⟨[], rfl, congrArg D.bl (decide_eq_true hp.2)⟩
theorem cal_need_wide (Z : Fz K mg) : Cal P w K mg base 4 "need_wide" (toSp K 0 ct_need_wide) := by
  refine cal_of Z.d_need_wide sc_need_wide (fun a ds h => by rw [h.1]; rfl) (by decide) ?_
  intro f cdv A outer s H E hr (a : Int ) ds hp X
  have hNd : X.N.Nodup := sc_need_wide.nd
  have hN0 : X.N[0]? = some ("wide" : Str) := rfl
  have hR : Room 3 X.A := hr
  have hu64 : X.A.units + 64 < cLine := by have := hR.un; omega
  have hu1 : X.A.units + 1 < cLine := by have := hR.un; omega
  have c_is_wide : Cal X.prog X.w X.K X.mg X.base 3 "is_wide" (toSp X.K 0 ct_is_wide) := cal_is_wide Z
  obtain ⟨hds, hp⟩ := hp
  subst hds
  show WSs X [] (_ :: _) [ some (D.int a)] _
  walk_at "go"
  refine ⟨a, ⟨rfl, hp⟩, fun d hd => ?_⟩
  have hd : d = .bl true := hd
  subst hd
  walk_at "go"
  exact ⟨[], rfl, rfl⟩
end
end
section
local macro_rules | `(tactic| walk_at "kit") => `(tactic| first | with_reducible exact kit_ii | with_reducible exact kit_ib | with_reducible exact kit_it | with_reducible exact kit_tt | with_reducible exact kit_ti | with_reducible exact kit_bb | with_reducible exact kit_bi | with_reducible exact kit_ll | with_reducible exact kit_dd | with_reducible exact kit_ss | with_reducible exact kit_ni | with_reducible exact kit_nt)
section
variable {P : Program} {w : World} {K : PySem.W.Frag} {mg : Str → Option Value} {base : Heap}
theorem cal_is_pointer (Z : Fz K mg) : Cal P w K mg base 3 "is_pointer" (toSp K 0 ct_is_pointer) := by
  refine cal_of Z.d_is_pointer sc_is_pointer (fun a ds h => by rw [h.1]; rfl) (by decide) ?_
  intro f cdv A outer s H E hr (a : HV ) ds hp X
  have hNd : X.N.Nodup := sc_is_pointer.nd
  have hN0 : X.N[0]? = some ("value" : Str) := rfl
  have hR : Room 2 X.A := hr
  have hu64 : X.A.units + 64 < cLine := by have := hR.un; omega
  have hu1 : X.A.units + 1 < cLine := by have := hR.un; omega
  have m_isinstance : X.mg "isinstance" = none := Z.b_isinstance
  have m_tuple : X.mg "tuple" = none := Z.b_tuple
  have m_str : X.mg "str" = none := Z.b_str
  have c_is_number : Cal X.prog X.w X.K X.mg X.base 2 "is_number" (toSp X.K 0 ct_is_number) := cal_is_number Z
  have m_len : X.mg "len" = none := Z.b_len
  obtain ⟨hds, hp⟩ := hp
  subst hds
  show WSs X [] (_ :: _) [ some (hvD a)] _
  rcases a with _ | i | n
  · show WSs X [] (_ :: _) [some D.non] _
    walk_at "go"
    exact ⟨[], rfl, rfl⟩
  · show WSs X [] (_ :: _) [some (D.int i)] _
    walk_at "go"
    exact ⟨[], rfl, rfl⟩
  · have hn : n < 1000000000000000000 := hp
    show WSs X [] (_ :: _) [some (D.tup [.str toS, .int n])] _
    walk_at "go"
    refine ⟨_, _, _, rfl, rfl, cmp_eqS, _, rfl, fun _ => ?_, fun h => absurd rfl (of_decide_eq_false h)⟩
    walk_at "go"
    refine ⟨((n : Int), 0), ⟨rfl, by dsimp only; omega, by dsimp only; omega⟩, fun d hd => ?_⟩
    have hd : d = .bl true := hd.trans (congrArg D.bl (decide_eq_true (Int.natCast_nonneg n)))
    subst hd
    walk_at "go"
    exact ⟨[], rfl, rfl⟩
theorem cal_is_value (Z : Fz K mg) : Cal P w K mg base 4 "is_value" (toSp K 0 ct_is_value) := by
  refine cal_of Z.d_is_value sc_is_value (fun a ds h => by rw [h.1]; rfl) (by decide) ?_
  intro f cdv A outer s H E hr (a : HV × Nat ) ds hp X
  have hNd : X.N.Nodup := sc_is_value.nd
  have hN0 : X.N[0]? = some ("value" : Str) := rfl
  have hN1 : X.N[1]? = some ("many" : Str) := rfl
  have hR : Room 3 X.A := hr
  have hu64 : X.A.units + 64 < cLine := by have := hR.un; omega
  have hu1 : X.A.units + 1 < cLine := by have := hR.un; omega
  have c_is_whole : Cal X.prog X.w X.K X.mg X.base 1 "is_whole" (toSp X.K 0 ct_is_whole) := cal_is_whole Z
  have c_is_pointer : Cal X.prog X.w X.K X.mg X.base 3 "is_pointer" (toSp X.K 0 ct_is_pointer) := cal_is_pointer Z
  obtain ⟨hds, hp⟩ := hp
  subst hds
  show WSs X [] (_ :: _) [ some (hvD a.1), some (D.int a.2)] _
  obtain ⟨v, m⟩ := a
  dsimp only at hp ⊢
  rcases v with _ | i | n
  · show WSs X [] (_ :: _) [some D.non, some (D.int m)] _
    walk_at "go"
    exact ⟨[], rfl, rfl⟩
  · have hi : -1000000000000000000 < i ∧ i < 1000000000000000000 := hp.1
    show WSs X [] (_ :: _) [some (D.int i), some (D.int m)] _
    walk_at "go"
    refine ⟨.num i, ⟨rfl, hi⟩, fun d hd => ?_⟩
    have hd : d = .bl true := hd
    subst hd
    walk_at "go"
    exact ⟨[], rfl, rfl⟩
  · have hn : n < m := hp.1
    show WSs X [] (_ :: _) [some (D.tup [.str toS, .int n]), some (D.int m)] _
    walk_at "go"
    refine ⟨.ptr n, ⟨rfl, hp.1.small hp.2⟩, fun d hd => ?_⟩
    have hd : d = .bl false := hd
    subst hd
    walk_at "go"
    refine ⟨.ptr n, ⟨rfl, hp.1.small hp.2⟩, fun d hd => ?_⟩
    have hd : d = .bl true := hd
    subst hd
    walk_at "go"
    exact ⟨[], rfl, congrArg D.bl (decide_eq_true (by omega))⟩
end
end
section
local macro_rules | `(tactic| walk_at "kit") => `(tactic| first | with_reducible exact kit_ii | with_reducible exact kit_ib | with_reducible exact kit_it | with_reducible exact kit_tt | with_reducible exact kit_ti | with_reducible exact kit_bb | with_reducible exact kit_bi | with_reducible exact kit_ll | with_reducible exact kit_dd | with_reducible exact kit_ss | with_reducible exact kit_ni | with_reducible exact kit_nt)
theorem all_map {α : Type} {xs : List α} : xs.filterMap (fun _ => some (D.bl true)) = (xs.map fun _ => true).map D.bl := by
  induction xs with
  | nil => rfl
  | cons x xs ih => rw [List.filterMap_cons, ih]; rfl
theorem all_id {α : Type} {xs : List α} : (xs.map fun _ => true).all id = true := by
  rw [List.all_eq_true]
  intro x hx
  obtain ⟨_, _, rfl⟩ := List.mem_map.mp hx
  rfl
theorem shpN_str {n : Nat} {x : Str} (h : PyData.strOk x = true) : ShpN n (.str x) := ⟨by simp [toPy, PyData.canLay0, h], by simp [toPy, PyData.depth]⟩
theorem shp_tnil : Shp (.tup []) := ShpN.shp (n := 1) (shpN_tup fun d hd => nomatch hd) (by decide)
theorem shpN_hv : ∀ v, ShpN 1 (hvD v)
  | .non => shpN_non
  | .num _ => shpN_int
  | .ptr _ => shpN_tup fun d hd => by
    rcases List.mem_cons.mp hd with q | q
    · rw [q]; exact shpN_str (by decide +kernel)
    · rw [List.mem_singleton.mp q]; exact shpN_int
section
variable {P : Program} {w : World} {K : PySem.W.Frag} {mg : Str → Option Value} {base : Heap}
theorem cal_is_record (Z : Fz K mg) : Cal P w K mg base 5 "is_record" (toSp K 0 ct_is_record) := by
  refine cal_of Z.d_is_record sc_is_record (fun a ds h => by rw [h.1]; rfl) (by decide) ?_
  intro f cdv A outer s H E hr (a : Rec × Nat × Nat ) ds hp X
  have hNd : X.N.Nodup := sc_is_record.nd
  have hN0 : X.N[0]? = some ("value" : Str) := rfl
  have hN1 : X.N[1]? = some ("wide" : Str) := rfl
  have hN2 : X.N[2]? = some ("many" : Str) := rfl
  have hN3 : X.N[3]? = some ("item" : Str) := rfl
  have hR : Room 4 X.A := hr
  have hu64 : X.A.units + 64 < cLine := by have := hR.un; omega
  have hu1 : X.A.units + 1 < cLine := by have := hR.un; omega
  have m_isinstance : X.mg "isinstance" = none := Z.b_isinstance
  have m_tuple : X.mg "tuple" = none := Z.b_tuple
  have m_all : X.mg "all" = none := Z.b_all
  have m_len : X.mg "len" = none := Z.b_len
  have c_is_value : Cal X.prog X.w X.K X.mg X.base 4 "is_value" (toSp X.K 0 ct_is_value) := cal_is_value Z
  obtain ⟨hds, hp⟩ := hp
  subst hds
  show WSs X [] (_ :: _) [ some (recD a.1), some (D.int a.2.1), some (D.int a.2.2), none] _
  obtain ⟨r, wd, m⟩ := a
  obtain ⟨hl, hw, hok, hm⟩ := hp
  dsimp only at hl hw hok hm ⊢
  have imr : Imms (r.map hvD) := imms_hv
  show WSs X [] (_ :: _) [some (D.tup (r.map hvD)), some (D.int wd), some (D.int m), none] _
  walk_at "go"
  refine ⟨fun _ => ?_, fun h => absurd (by rw [List.length_map, hl]) (of_decide_eq_false h)⟩
  walk_at "go"
  refine' wo_lcX (own := [("item", 3)]) rfl hNd ?ok ?hg ?_ ?hs
  case ok => exact (show BlkOk ["value", "wide", "many", "item"] (defScope s_is_record) _ [("item", 3)] from ⟨rfl, by decide +kernel, by decide +kernel, by decide +kernel, by decide +kernel⟩)
  case hs => exact fun _ => rfl
  case hg => exact blk_name hNd hN3 rfl
  refine wi_tup ?_
  walk_at "go"
  rw [List.length_map]
  refine ⟨HV, r, hvD, fun _ => some (D.bl true), rfl, by omega, fun j h => hv_at h, (fun p h => nomatch h), ?_, ?_⟩
  · intro v hv
    have iv : Imm (hvD v) := imm_hv v
    refine ⟨_, tgb_name (by decide) (Nat.le_of_ble_eq_true rfl), fun s H C cl fp => ?_⟩
    try dsimp only [List.set]
    refine wif_nil ⟨fun _ s H C cl fp => ?_, fun h => Bool.noConfusion h⟩
    walk_at "go"
    refine ⟨(v, m), ⟨rfl, hok v hv, hm⟩, fun d hd => ?_⟩
    have hd : d = .bl true := hd
    subst hd
    walk_at "go"
    exact ⟨rfl, rfl⟩
  · rw [all_map]
    refine ⟨_, rfl, ?_⟩
    rw [all_id]
    walk_at "go"
    exact ⟨[], rfl, rfl⟩
end
end
section
local macro_rules | `(tactic| walk_at "kit") => `(tactic| first | with_reducible exact kit_ii | with_reducible exact kit_ib | with_reducible exact kit_it | with_reducible exact kit_tt | with_reducible exact kit_ti | with_reducible exact kit_bb | with_reducible exact kit_bi | with_reducible exact kit_ll | with_reducible exact kit_dd | with_reducible exact kit_ss | with_reducible exact kit_ni | with_reducible exact kit_nt)
theorem shpN_rec {r : Rec} : ShpN 2 (recD r) := shpN_tup fun d hd => by
  obtain ⟨v, _, rfl⟩ := List.mem_map.mp hd
  exact shpN_hv v
theorem shpN_hea {h : Hea} : ShpN 3 (heaD h) := shpN_tup fun d hd => by
  obtain ⟨v, _, rfl⟩ := List.mem_map.mp hd
  exact shpN_rec
theorem shp_hea {h : Hea} : Shp (heaD h) := ShpN.shp shpN_hea (by decide)
theorem hea_ne {h : Hea} (l : 0 < h.length) : deq (heaD h) (.tup []) = false := by
  cases h with
  | nil => exact absurd l (by decide)
  | cons r h => exact (deq_tt rfl rfl).trans deqs_cn
section
variable {P : Program} {w : World} {K : PySem.W.Frag} {mg : Str → Option Value} {base : Heap}
theorem cal_is_heap (Z : Fz K mg) : Cal P w K mg base 6 "is_heap" (toSp K 0 ct_is_heap) := by
  refine cal_of Z.d_is_heap sc_is_heap (fun a ds h => by rw [h.1]; rfl) (by decide) ?_
  intro f cdv A outer s H E hr (a : Hea × Nat ) ds hp X
  have hNd : X.N.Nodup := sc_is_heap.nd
  have hN0 : X.N[0]? = some ("value" : Str) := rfl
  have hN1 : X.N[1]? = some ("wide" : Str) := rfl
  have hN2 : X.N[2]? = some ("record" : Str) := rfl
  have hR : Room 5 X.A := hr
  have hu64 : X.A.units + 64 < cLine := by have := hR.un; omega
  have hu1 : X.A.units + 1 < cLine := by have := hR.un; omega
  have c_need_wide : Cal X.prog X.w X.K X.mg X.base 4 "need_wide" (toSp X.K 0 ct_need_wide) := cal_need_wide Z
  have m_all : X.mg "all" = none := Z.b_all
  have m_isinstance : X.mg "isinstance" = none := Z.b_isinstance
  have m_tuple : X.mg "tuple" = none := Z.b_tuple
  have c_is_record : Cal X.prog X.w X.K X.mg X.base 5 "is_record" (toSp X.K 0 ct_is_record) := cal_is_record Z
  have m_len : X.mg "len" = none := Z.b_len
  obtain ⟨hds, hp⟩ := hp
  subst hds
  show WSs X [] (_ :: _) [ some (heaD a.1), some (D.int a.2), none] _
  obtain ⟨h, wd⟩ := a
  dsimp only at hp ⊢
  have h1 := hp.w1
  have h6 := hp.w6
  have few := hp.few
  have pos := hp.pos
  have imh : Imms (h.map recD) := imms_rec
  have imh' : Imm (heaD h) := imms_rec
  show WSs X [] (_ :: _) [some (D.tup (h.map recD)), some (D.int wd), none] _
  walk_at "go"
  refine ⟨(wd : Int), ⟨rfl, by omega, by omega⟩, fun d hd => ?_⟩
  have hd : d = .non := hd
  subst hd
  walk_at "go"
  refine ⟨_, _, _, rfl, rfl, cmp_eq hu64 (shp_hea (h := h)) shp_tnil, ?_⟩
  rw [show deq (.tup (h.map recD)) (.tup []) = false from hea_ne pos]
  walk_at "go"
  refine' wo_lcX (own := [("record", 2)]) rfl hNd ?ok ?hg ?_ ?hs
  case ok => exact (show BlkOk ["value", "wide", "record"] (defScope s_is_heap) _ [("record", 2)] from ⟨rfl, by decide +kernel, by decide +kernel, by decide +kernel, by decide +kernel⟩)
  case hs => exact fun _ => rfl
  case hg => exact blk_name hNd hN2 rfl
  refine wi_tup ?_
  walk_at "go"
  rw [List.length_map]
  refine ⟨Rec, h, recD, fun _ => some (D.bl true), rfl, by omega, fun j l => rec_at l, (fun p h => nomatch h), ?_, ?_⟩
  · intro r hr
    have ir : Imm (recD r) := imm_rec
    refine ⟨_, tgb_name (by decide) (Nat.le_of_ble_eq_true rfl), fun s H C cl fp => ?_⟩
    try dsimp only [List.set]
    refine wif_nil ⟨fun _ s H C cl fp => ?_, fun h => Bool.noConfusion h⟩
    walk_at "go"
    rw [List.length_map]
    refine ⟨(r, wd, h.length), ⟨rfl, hp.len r hr, by dsimp only; omega, hp.ok r hr, few⟩, fun d hd => ?_⟩
    have hd : d = .bl true := hd
    subst hd
    walk_at "go"
    exact ⟨rfl, rfl⟩
  · rw [all_map]
    refine ⟨_, rfl, ?_⟩
    rw [all_id]
    walk_at "go"
    exact ⟨[], rfl, rfl⟩
theorem cal_need_heap (Z : Fz K mg) : Cal P w K mg base 7 "need_heap" (toSp K 0 ct_need_heap) := by
  refine cal_of Z.d_need_heap sc_need_heap (fun a ds h => by rw [h.1]; rfl) (by decide) ?_
  intro f cdv A outer s H E hr (a : Hea × Nat ) ds hp X
  have hNd : X.N.Nodup := sc_need_heap.nd
  have hN0 : X.N[0]? = some ("heap" : Str) := rfl
  have hN1 : X.N[1]? = some ("wide" : Str) := rfl
  have hR : Room 6 X.A := hr
  have hu64 : X.A.units + 64 < cLine := by have := hR.un; omega
  have hu1 : X.A.units + 1 < cLine := by have := hR.un; omega
  have c_is_heap : Cal X.prog X.w X.K X.mg X.base 6 "is_heap" (toSp X.K 0 ct_is_heap) := cal_is_heap Z
  obtain ⟨hds, hp⟩ := hp
  subst hds
  show WSs X [] (_ :: _) [ some (heaD a.1), some (D.int a.2)] _
  obtain ⟨h, wd⟩ := a
  dsimp only at hp ⊢
  have imh' : Imm (heaD h) := imms_rec
  walk_at "go"
  refine ⟨(h, wd), ⟨rfl, hp⟩, fun d hd => ?_⟩
  have hd : d = .bl true := hd
  subst hd
  walk_at "go"
  exact ⟨[], rfl, rfl⟩
end
end
section
local macro_rules | `(tactic| walk_at "kit") => `(tactic| first | with_reducible exact kit_ii | with_reducible exact kit_ib | with_reducible exact kit_it | with_reducible exact kit_tt | with_reducible exact kit_ti | with_reducible exact kit_bb | with_reducible exact kit_bi | with_reducible exact kit_ll | with_reducible exact kit_dd | with_reducible exact kit_ss | with_reducible exact kit_ni | with_reducible exact kit_nt)
def cntV (acc : List Int) : HV → List Int
  | .ptr n => acc.set n (acc.getD n 0 + 1)
  | _ => acc
def cntR (acc : List Int) (r : Rec) : List Int := r.foldl cntV acc
def cntH (h : Hea) : List Int := h.foldl cntR (List.replicate h.length 0)
theorem cntV_len {acc : List Int} : ∀ {v : HV}, (cntV acc v).length = acc.length
  | .non => rfl
  | .num _ => rfl
  | .ptr _ => List.length_set ..
theorem cntR_len : ∀ {r : Rec} {acc : List Int}, (cntR acc r).length = acc.length
  | [], _ => rfl
  | v :: r, acc => (cntR_len (r := r)).trans cntV_len
theorem cnt_rows_len : ∀ {h : Hea} {acc : List Int}, (h.foldl cntR acc).length = acc.length
  | [], _ => rfl
  | r :: h, acc => (cnt_rows_len (h := h)).trans cntR_len
theorem fold_take {α β : Type} {f : β → α → β} {b : β} {xs : List α} {j : Nat} (h : j < xs.length) : (xs.take (j + 1)).foldl f b = f ((xs.take j).foldl f b) xs[j] := by
  rw [List.take_succ, List.getElem?_eq_getElem h, List.foldl_append]; rfl
theorem zeros {m : Nat} : (List.replicate m [D.int 0]).flatten = (List.replicate m (0 : Int)).map D.int := by
  induction m with
  | zero => rfl
  | succ m ih => rw [List.replicate_succ, List.flatten_cons, ih]; rfl
def ct_pointed : Ct := ⟨Hea × Nat, fun v ds => ds = [heaD v.1, .int v.2] ∧ WfH v.2 v.1, fun v d _ => d = .tup ((cntH v.1).map D.int)⟩
section
variable {P : Program} {w : World} {K : PySem.W.Frag} {mg : Str → Option Value} {base : Heap}
theorem cal_pointed (Z : Fz K mg) : Cal P w K mg base 8 "pointed" (toSp K 0 ct_pointed) := by
  refine cal_of Z.d_pointed sc_pointed (fun a ds h => by rw [h.1]; rfl) (by decide) ?_
  intro f cdv A outer s H E hr (a : Hea × Nat ) ds hp X
  have hNd : X.N.Nodup := sc_pointed.nd
  have hN0 : X.N[0]? = some ("heap" : Str) := rfl
  have hN1 : X.N[1]? = some ("wide" : Str) := rfl
  have hN2 : X.N[2]? = some ("found" : Str) := rfl
  have hN3 : X.N[3]? = some ("record" : Str) := rfl
  have hN4 : X.N[4]? = some ("value" : Str) := rfl
  have hR : Room 7 X.A := hr
  have hu64 : X.A.units + 64 < cLine := by have := hR.un; omega
  have hu1 : X.A.units + 1 < cLine := by have := hR.un; omega
  have c_need_heap : Cal X.prog X.w X.K X.mg X.base 7 "need_heap" (toSp X.K 0 ct_need_heap) := cal_need_heap Z
  have m_tuple : X.mg "tuple" = none := Z.b_tuple
  have m_len : X.mg "len" = none := Z.b_len
  have c_is_pointer : Cal X.prog X.w X.K X.mg X.base 3 "is_pointer" (toSp X.K 0 ct_is_pointer) := cal_is_pointer Z
  obtain ⟨hds, hp⟩ := hp
  subst hds
  show WSs X [] (_ :: _) [ some (heaD a.1), some (D.int a.2), none, none, none] _
  obtain ⟨h, wd⟩ := a
  dsimp only at hp ⊢
  have few := hp.few
  have imh : Imms (h.map recD) := imms_rec
  have imh' : Imm (heaD h) := imms_rec
  walk_at "go"
  refine ⟨(h, wd), ⟨rfl, hp⟩, fun d hd => ?_⟩
  have hd : d = .non := hd
  subst hd
  walk_at "go"
  refine ⟨_, _, _, rfl, rfl, MulD.lst ⟨trivial, trivial⟩ (by rw [List.length_map]; omega) (by rw [List.length_map, Int.toNat_natCast]; simpa using few), ?_⟩
  rw [List.length_map, Int.toNat_natCast, zeros]
  walk_at "go"
  generalize hz : List.replicate h.length (0 : Int) = z0
  have lz : z0.length = h.length := by rw [← hz, List.length_replicate]
  refine ws_for PassesOwn.never rfl ?_
  refine wi_tup ?_
  walk_at "go"
  rw [List.length_map]
  refine ⟨fun j E' => ∃ o3 o4, E' = [some (heaD h), some (.int wd), some (.lst (((h.take j).foldl cntR z0).map D.int)), o3, o4], ⟨_, _, rfl⟩, (fun _ _ _ _ p h => nomatch h), ?_, ?_⟩
  · rintro j E' hj ⟨o3, o4, rfl⟩
    show WG _ _ _ ((h.map recD).getD j .non) _ _
    rw [rec_at hj]
    have la : ((h.take j).foldl cntR z0).length = h.length := cnt_rows_len.trans lz
    have ef := fold_take (f := cntR) (b := z0) hj
    have hr : h[j] ∈ h := List.getElem_mem hj
    have okr := hp.ok _ hr
    generalize (h.take j).foldl cntR z0 = acc at la ef ⊢
    generalize h[j] = r at hr okr ef ⊢
    have lr := hp.len r hr
    have h6 := hp.w6
    have imr : Imms (r.map hvD) := imms_hv
    have imr' : Imm (recD r) := imms_hv
    walk_at "go"
    refine ws_for PassesOwn.never rfl ?_
    refine wi_tup ?_
    walk_at "go"
    rw [List.length_map]
    refine ⟨fun k E' => ∃ o4, E' = [some (heaD h), some (.int wd), some (.lst (((r.take k).foldl cntV acc).map D.int)), some (recD r), o4], ⟨_, rfl⟩, (fun _ _ _ _ p h => nomatch h), ?_, ?_⟩
    · rintro k E' hk ⟨o4, rfl⟩
      show WG _ _ _ ((r.map hvD).getD k .non) _ _
      rw [hv_at hk]
      have eg := fold_take (f := cntV) (b := acc) hk
      have lb : ((r.take k).foldl cntV acc).length = h.length := (cntR_len (r := r.take k)).trans la
      have okv := okr _ (List.getElem_mem hk)
      generalize (r.take k).foldl cntV acc = ac at lb eg ⊢
      generalize r[k] = v at okv eg ⊢
      have iv : Imm (hvD v) := imm_hv v
      walk_at "go"
      refine ⟨v, ⟨rfl, okv.small few⟩, fun d hd => ?_⟩
      have hd : d = .bl v.isP := hd
      subst hd
      rcases v with _ | i | n
      · walk_at "go"
        exact ⟨_, by rw [eg]; rfl⟩
      · walk_at "go"
        exact ⟨_, by rw [eg]; rfl⟩
      · have hn : n < h.length := okv
        walk_at "go"
        show WS X _ _ [some (heaD h), some (.int wd), some (.lst (ac.map D.int)), some (recD r), some (D.tup [.str toS, .int n])] _
        have em : ac[n]? = some (ac.getD n 0) := by rw [List.getD_eq_getElem?_getD, List.getElem?_eq_getElem (by omega)]; rfl
        refine ws_augSub hN2 ⟨_, rfl⟩ ?_ (.inl rfl) (by decide) (by decide)
        walk_at "go"
        refine ⟨n, ac, _, rfl, rfl, em, ?_⟩
        walk_at "go"
        refine ⟨rfl, ?_⟩
        exact ⟨_, by rw [eg]; rfl⟩
    · rintro E' ⟨o4, rfl⟩
      walk_at "go"
      exact ⟨_, _, by rw [List.take_length, ef]; rfl⟩
  · rintro E' ⟨o3, o4, rfl⟩
    rw [List.take_length]
    walk_at "go"
    subst hz
    exact ⟨[], rfl, rfl⟩
end
end
section
local macro_rules | `(tactic| walk_at "kit") => `(tactic| first | with_reducible exact kit_ii | with_reducible exact kit_ib | with_reducible exact kit_it | with_reducible exact kit_tt | with_reducible exact kit_ti | with_reducible exact kit_bb | with_reducible exact kit_bi | with_reducible exact kit_ll | with_reducible exact kit_dd | with_reducible exact kit_ss | with_reducible exact kit_ni | with_reducible exact kit_nt)
def ct_law_as_value : Ct := ⟨Sta × Int × Nat, fun a ds => ds = [sD a.1, .int a.2.2] ∧ SOk a.2.1 a.1 ∧ (1 ≤ a.2.2 ∧ a.2.2 ≤ 100000) ∧ a.2.1 ≤ 900000000000, fun a d ds => ∃ (v : HV) (s : Sta), d = hvD v ∧ v.ok a.2.2 ∧ ds = [sD s] ∧ SOk (a.2.1 + 2) s⟩
section
variable {P : Program} {w : World} {K : PySem.W.Frag} {mg : Str → Option Value} {base : Heap}
theorem cal_law_as_value (Z : Fz K mg) : Cal P w K mg base 4 "_law_as_value" (toSp K 1 ct_law_as_value) := by
  refine cal_of Z.d_law_as_value sc_law_as_value (fun a ds h => by rw [h.1]; rfl) (by decide) ?_
  intro f cdv A outer s H E hr (a : Sta × Int × Nat ) ds hp X
  have hNd : X.N.Nodup := sc_law_as_value.nd
  have hN0 : X.N[0]? = some ("state" : Str) := rfl
  have hN1 : X.N[1]? = some ("many" : Str) := rfl
  have hN2 : X.N[2]? = some ("way" : Str) := rfl
  have hR : Room 3 X.A := hr
  have hu64 : X.A.units + 64 < cLine := by have := hR.un; omega
  have hu1 : X.A.units + 1 < cLine := by have := hR.un; omega
  have c_law_draw : Cal X.prog X.w X.K X.mg X.base 2 "_law_draw" (toSp X.K 1 ct_law_draw) := cal_law_draw Z
  have c_law_pick : Cal X.prog X.w X.K X.mg X.base 3 "_law_pick" (toSp X.K 1 ct_law_pick) := cal_law_pick Z
  obtain ⟨hds, hp⟩ := hp
  subst hds
  show WSs X [0] (_ :: _) [ some (sD a.1), some (D.int a.2.2), none] _
  obtain ⟨s, n, m⟩ := a
  obtain ⟨ok, hm, hn⟩ := hp
  dsimp only at ok hm hn ⊢
  walk_at "go"
  refine ⟨(_, _, _), ⟨rfl, by with_reducible assumption, by dsimp only; (try simp only [ncast]); omega, by dsimp only; omega⟩, ?_⟩
  rintro _ _ ⟨r, s1, rfl, hr, hd, oks1⟩
  cases hd
  dsimp only at hr oks1
  try simp only [ncast] at hr
  dsimp only [List.set]
  walk_at "go"
  refine ⟨fun h => ?_, fun h => ?_⟩
  · walk_at "go"
    exact ⟨[sD s1], rfl, .non, s1, rfl, trivial, rfl, oks1.mono (by dsimp only; omega)⟩
  have p17 : CPow 10 17 := ⟨by decide, by decide, by decide⟩
  walk_at "go"
  refine ⟨fun h1 => ?_, fun h1 => ?_⟩
  · walk_at "go"
    refine ⟨(s1, n + 1, _, _), ⟨rfl, oks1, rfl, ⟨trivial, trivial, trivial, trivial, trivial, trivial, trivial, trivial⟩, ⟨Nat.le_of_ble_eq_true rfl, Nat.le_of_ble_eq_true rfl⟩, by dsimp only; omega⟩, ?_⟩
    rintro d d0 ⟨s2, hm2, hd, ok2⟩
    cases hd
    walk_at "go"
    dsimp only at hm2 ok2
    obtain ⟨i, rfl, hi⟩ : ∃ i, d = .int i ∧ -1000000000000000000 < i ∧ i < 1000000000000000000 := by
      simp only [List.mem_cons, List.not_mem_nil, or_false] at hm2
      rcases hm2 with q | q | q | q | q | q | q <;> subst q <;> exact ⟨_, rfl, by decide, by decide⟩
    exact ⟨[sD s2], rfl, .num i, s2, rfl, hi, rfl, ok2.mono (by dsimp only; omega)⟩
  · walk_at "go"
    refine ⟨(_, _, _), ⟨rfl, by with_reducible assumption, by dsimp only; (try simp only [ncast]); omega, by dsimp only; omega⟩, ?_⟩
    rintro _ _ ⟨r2, s2, rfl, hr2, hd, oks2⟩
    cases hd
    dsimp only at hr2 oks2
    try simp only [ncast] at hr2
    dsimp only [List.set]
    walk_at "go"
    obtain ⟨j, rfl⟩ : ∃ j : Nat, r2 = j := ⟨r2.toNat, by omega⟩
    refine ⟨[sD s2], rfl, .ptr j, s2, rfl, ?_, rfl, oks2.mono (by dsimp only; omega)⟩
    show j < m
    omega
end
end
section
local macro_rules | `(tactic| walk_at "kit") => `(tactic| first | with_reducible exact kit_ii | with_reducible exact kit_ib | with_reducible exact kit_it | with_reducible exact kit_tt | with_reducible exact kit_ti | with_reducible exact kit_bb | with_reducible exact kit_bi | with_reducible exact kit_ll | with_reducible exact kit_dd | with_reducible exact kit_ss | with_reducible exact kit_ni | with_reducible exact kit_nt)
section
variable {P : Program} {w : World} {K : PySem.W.Frag} {mg : Str → Option Value} {base : Heap}
end
end
section
local macro_rules | `(tactic| walk_at "kit") => `(tactic| first | with_reducible exact kit_ii | with_reducible exact kit_ib | with_reducible exact kit_it | with_reducible exact kit_tt | with_reducible exact kit_ti | with_reducible exact kit_bb | with_reducible exact kit_bi | with_reducible exact kit_ll | with_reducible exact kit_dd | with_reducible exact kit_ss | with_reducible exact kit_ni | with_reducible exact kit_nt)
section
variable {P : Program} {w : World} {K : PySem.W.Frag} {mg : Str → Option Value} {base : Heap}
end
end
section
local macro_rules | `(tactic| walk_at "kit") => `(tactic| first | with_reducible exact kit_ii | with_reducible exact kit_ib | with_reducible exact kit_it | with_reducible exact kit_tt | with_reducible exact kit_ti | with_reducible exact kit_bb | with_reducible exact kit_bi | with_reducible exact kit_ll | with_reducible exact kit_dd | with_reducible exact kit_ss | with_reducible exact kit_ni | with_reducible exact kit_nt)
def ct_met : Ct := ⟨Hea × Nat, fun v ds => ds = [heaD v.1] ∧ WfH v.2 v.1, fun v d _ => d = .lst ((metH v.1).map D.int)⟩
def kno (o : List Int) : D := .dic (o.map Sum.inl) (List.replicate o.length (.bl true))
theorem imms_rep {m : Nat} : Imms (List.replicate m (D.bl true)) := imms_iff.mpr fun d hd => by rw [(List.mem_replicate.mp hd).2]; trivial
theorem kno_add {o : List Int} {n : Int} : D.dic ((o ++ [n]).map Sum.inl) (List.replicate o.length (.bl true) ++ [.bl true]) = kno (o ++ [n]) := by
  unfold kno
  rw [List.length_append]
  show _ = D.dic _ (List.replicate (o.length + 1) (.bl true))
  rw [List.replicate_succ']
section
variable {P : Program} {w : World} {K : PySem.W.Frag} {mg : Str → Option Value} {base : Heap}
theorem cal_met (Z : Fz K mg) : Cal P w K mg base 4 "met" (toSp K 0 ct_met) := by
  refine cal_of Z.d_met sc_met (fun a ds h => by rw [h.1]; rfl) (by decide) ?_
  intro f cdv A outer s H E hr (a : Hea × Nat ) ds hp X
  have hNd : X.N.Nodup := sc_met.nd
  have hN0 : X.N[0]? = some ("heap" : Str) := rfl
  have hN1 : X.N[1]? = some ("order" : Str) := rfl
  have hN2 : X.N[2]? = some ("known" : Str) := rfl
  have hN3 : X.N[3]? = some ("at" : Str) := rfl
  have hN4 : X.N[4]? = some ("value" : Str) := rfl
  have hR : Room 3 X.A := hr
  have hu64 : X.A.units + 64 < cLine := by have := hR.un; omega
  have hu1 : X.A.units + 1 < cLine := by have := hR.un; omega
  have m_len : X.mg "len" = none := Z.b_len
  have c_is_pointer : Cal X.prog X.w X.K X.mg X.base 3 "is_pointer" (toSp X.K 0 ct_is_pointer) := cal_is_pointer Z
  obtain ⟨hds, hp⟩ := hp
  subst hds
  show WSs X [] (_ :: _) [ some (heaD a.1), none, none, none, none] _
  obtain ⟨h, wd⟩ := a
  dsimp only at hp ⊢
  have few := hp.few
  have imh : Imms (h.map recD) := imms_rec
  have imh' : Imm (heaD h) := imms_rec
  walk_at "go"
  refine ws_while PassesOwn.never (fun m E' => ∃ (t : Nat) (o4 : Option D), m = h.length - t ∧ t ≤ (metT h t).length ∧ E' = [some (heaD h), some (.lst ((metT h t).map D.int)), some (kno (metT h t)), some (.int t), o4]) ⟨_, 0, none, rfl, Nat.zero_le _, rfl⟩ ?_
  rintro m E' ⟨t, o4, rfl, ht, rfl⟩
  have ok : MetOk h.length (metT h t) := MetOk.fold hp (MetOk.one hp)
  have oks := ok.step hp t
  have ef : metT h (t+1) = stepM h (metT h t) t := metT_succ
  have est := metT_stop (h := h) (t := t)
  have lo := ok.len
  generalize hord : metT h t = ord at ef ok oks ht est lo ⊢
  walk_at "go"
  rw [List.length_map]
  refine ⟨fun hb => ?_, fun hb => ?_⟩
  · have hlt : t < ord.length := by have := of_decide_eq_true hb; omega
    have eo : ord[t]? = some (ord.getD t 0) := by rw [List.getD_eq_getElem?_getD, List.getElem?_eq_getElem hlt]; rfl
    obtain ⟨q0, q1⟩ := ok.b _ (List.mem_of_getElem? eo)
    have es : stepM h ord t = addR ord (h.getD (ord.getD t 0).toNat []) := if_pos hlt
    generalize ord.getD t 0 = i at eo q0 q1 es
    obtain ⟨q, rfl⟩ : ∃ q : Nat, i = q := ⟨i.toNat, by omega⟩
    have hq : q < h.length := by omega
    have eh : h.getD (Int.toNat (q : Int)) [] = h[q] := by rw [Int.toNat_natCast, List.getD_eq_getElem?_getD, List.getElem?_eq_getElem hq]; rfl
    rw [eh] at es
    have hr := List.getElem_mem hq
    have okr := hp.ok _ hr
    have lr := hp.len _ hr
    have h6 := hp.w6
    have eat : atI (h.map recD) (q : Int) = some (recD h[q]) := by rw [ix_nat (by omega), Int.toNat_natCast, List.getElem?_map, List.getElem?_eq_getElem hq]; rfl
    have eao : atI (ord.map D.int) (t : Int) = some (D.int q) := by rw [ix_nat (by omega), Int.toNat_natCast, List.getElem?_map, eo]; rfl
    generalize h[q] = r at hr okr lr es eat
    have imr : Imms (r.map hvD) := imms_hv
    have imr' : Imm (recD r) := imms_hv
    walk_at "go"
    refine ws_for PassesOwn.never rfl ?_
    refine wi_tup ?_
    walk_at "go"
    rw [List.length_map]
    refine ⟨fun k E' => ∃ o4, E' = [some (heaD h), some (.lst ((addR ord (r.take k)).map D.int)), some (kno (addR ord (r.take k))), some (.int t), o4], ⟨_, rfl⟩, (fun _ _ _ _ p h => nomatch h), ?_, ?_⟩
    · rintro k E' hk ⟨o4, rfl⟩
      show WG _ _ _ ((r.map hvD).getD k .non) _ _
      rw [hv_at hk]
      have eg : addR ord (r.take (k + 1)) = addV (addR ord (r.take k)) r[k] := fold_take (f := addV) (b := ord) hk
      have okv := okr _ (List.getElem_mem hk)
      have okk : MetOk h.length (addR ord (r.take k)) := ok.addR fun v hv => okr v (List.mem_of_mem_take hv)
      generalize addR ord (r.take k) = ac at eg okk ⊢
      generalize r[k] = v at okv eg ⊢
      have lac := okk.len
      have iv : Imm (hvD v) := imm_hv v
      walk_at "go"
      refine ⟨v, ⟨rfl, okv.small few⟩, fun d hd => ?_⟩
      have hd : d = .bl v.isP := hd
      subst hd
      rcases v with _ | i | n
      · walk_at "go"
        exact ⟨_, by rw [eg]; rfl⟩
      · walk_at "go"
        exact ⟨_, by rw [eg]; rfl⟩
      · have hn : n < h.length := okv
        have ev : addV ac (.ptr n) = if (n : Int) ∈ ac then ac else ac ++ [(n : Int)] := rfl
        have imk : Imms (List.replicate ac.length (D.bl true)) := imms_rep
        walk_at "go"
        refine ⟨_, _, _, rfl, rfl, cmp_niD hu1, ?_⟩
        refine ⟨fun hin => ?_, fun hin => ?_⟩
        · have hni : ¬ (n : Int) ∈ ac := by simpa using hin
          rw [if_neg hni] at ev
          walk_at "go"
          refine' wg_dputN ?h1 ?h2 ?h3 ?h4 ?_ ?h5 ?h6 ?h7 ?h8
          case h1 => exact hu1
          case h2 => exact hN2
          case h3 => exact ⟨_, _, rfl⟩
          case h4 => trivial
          case h5 => walk_at "vis"
          case h6 => decide
          case h7 => decide
          case h8 => exact fun _ => rfl
          walk_at "go"
          refine ⟨ac, List.replicate ac.length (.bl true), (n : Int), rfl, rfl, hni, imk, by omega, ?_⟩
          dsimp only [List.set]
          rw [kno_add]
          walk_at "go"
          have l2 := (okk.add okv).len
          rw [ev, List.length_append] at l2
          have l3 : ac.length + 1 ≤ h.length := l2
          have el : (addR ord (r.take (k + 1))).map D.int = ac.map D.int ++ [D.int n] := by rw [eg, ev, List.map_append]; rfl
          refine ⟨by rw [List.length_map]; omega, ?_⟩
          refine ⟨some (D.tup [.str toS, .int n]), ?_⟩
          rw [el, eg, ev]
          rfl
        · have hii : (n : Int) ∈ ac := by simpa using hin
          rw [if_pos hii] at ev
          walk_at "go"
          exact ⟨_, by rw [eg, ev]⟩
    · rintro E' ⟨o4, rfl⟩
      rw [List.take_length]
      walk_at "go"
      rw [es] at ef
      have lo2 := (ok.addR okr).len
      obtain ⟨ys, ey⟩ := addR_pre (r := r) (o := ord)
      refine ⟨_, by omega, t + 1, o4, rfl, ?_, ?_⟩
      · rw [ef, ey, List.length_append]
        omega
      · rw [ef]
        rfl
  · have hge : ord.length ≤ t := by have := of_decide_eq_false hb; omega
    walk_at "go"
    have lt : t ≤ h.length := by omega
    have e1 := est hge (h.length - t)
    rw [Nat.add_sub_cancel' lt, metT_all] at e1
    exact ⟨[], rfl, congrArg (fun o : List Int => D.lst (o.map D.int)) e1.symm⟩
end
end
section
local macro_rules | `(tactic| walk_at "kit") => `(tactic| first | with_reducible exact kit_ii | with_reducible exact kit_ib | with_reducible exact kit_it | with_reducible exact kit_tt | with_reducible exact kit_ti | with_reducible exact kit_bb | with_reducible exact kit_bi | with_reducible exact kit_ll | with_reducible exact kit_dd | with_reducible exact kit_ss | with_reducible exact kit_ni | with_reducible exact kit_nt)
theorem nodup_inl {ns : List Int} (h : ns.Nodup) : (ns.map (Sum.inl : Int → Key)).Nodup := List.Pairwise.map _ (fun a b h e => h (Sum.inl.inj e)) h
theorem fm_some {α β : Type} {f : α → β} : ∀ {xs : List α}, (xs.filterMap fun x => some (f x)) = xs.map f
  | [] => rfl
  | x :: xs => by rw [List.filterMap_cons]; exact congrArg (f x :: ·) fm_some
def ct_reached : Ct := ⟨Hea × Nat, fun v ds => ds = [heaD v.1, .int v.2] ∧ WfH v.2 v.1, fun v d _ => ∃ ns : List Int, d = .tup (ns.map D.int) ∧ ns.Perm (metH v.1) ∧ ns.Pairwise (· ≤ ·)⟩
def ct_seen : Ct := ⟨Hea × Nat, fun v ds => ds = [heaD v.1, .int v.2] ∧ WfH v.2 v.1, fun v d _ => d = heaD (seeH v.1)⟩
section
variable {P : Program} {w : World} {K : PySem.W.Frag} {mg : Str → Option Value} {base : Heap}
theorem cal_reached (Z : Fz K mg) : Cal P w K mg base 8 "reached" (toSp K 0 ct_reached) := by
  refine cal_of Z.d_reached sc_reached (fun a ds h => by rw [h.1]; rfl) (by decide) ?_
  intro f cdv A outer s H E hr (a : Hea × Nat ) ds hp X
  have hNd : X.N.Nodup := sc_reached.nd
  have hN0 : X.N[0]? = some ("heap" : Str) := rfl
  have hN1 : X.N[1]? = some ("wide" : Str) := rfl
  have hR : Room 7 X.A := hr
  have hu64 : X.A.units + 64 < cLine := by have := hR.un; omega
  have hu1 : X.A.units + 1 < cLine := by have := hR.un; omega
  have c_need_heap : Cal X.prog X.w X.K X.mg X.base 7 "need_heap" (toSp X.K 0 ct_need_heap) := cal_need_heap Z
  have m_tuple : X.mg "tuple" = none := Z.b_tuple
  have m_sorted : X.mg "sorted" = none := Z.b_sorted
  have c_met : Cal X.prog X.w X.K X.mg X.base 4 "met" (toSp X.K 0 ct_met) := cal_met Z
  obtain ⟨hds, hp⟩ := hp
  subst hds
  show WSs X [] (_ :: _) [ some (heaD a.1), some (D.int a.2)] _
  obtain ⟨h, wd⟩ := a
  dsimp only at hp ⊢
  have imh : Imms (h.map recD) := imms_rec
  have imh' : Imm (heaD h) := imms_rec
  walk_at "go"
  refine ⟨(h, wd), ⟨rfl, hp⟩, fun d hd => ?_⟩
  have hd : d = .non := hd
  subst hd
  walk_at "go"
  refine ⟨(h, wd), ⟨rfl, hp⟩, fun d hd => ?_⟩
  have hd : d = .lst ((metH h).map D.int) := hd
  subst hd
  refine ⟨metH h, rfl, fun ns hp1 hp2 => ?_⟩
  walk_at "go"
  exact ⟨[], rfl, ns, rfl, hp1, hp2⟩
theorem cal_seen (Z : Fz K mg) : Cal P w K mg base 8 "seen" (toSp K 0 ct_seen) := by
  refine cal_of Z.d_seen sc_seen (fun a ds h => by rw [h.1]; rfl) (by decide) ?_
  intro f cdv A outer s H E hr (a : Hea × Nat ) ds hp X
  have hNd : X.N.Nodup := sc_seen.nd
  have hN0 : X.N[0]? = some ("heap" : Str) := rfl
  have hN1 : X.N[1]? = some ("wide" : Str) := rfl
  have hN2 : X.N[2]? = some ("order" : Str) := rfl
  have hN3 : X.N[3]? = some ("place" : Str) := rfl
  have hN4 : X.N[4]? = some ("at" : Str) := rfl
  have hN5 : X.N[5]? = some ("record" : Str) := rfl
  have hN6 : X.N[6]? = some ("value" : Str) := rfl
  have hR : Room 7 X.A := hr
  have hu64 : X.A.units + 64 < cLine := by have := hR.un; omega
  have hu1 : X.A.units + 1 < cLine := by have := hR.un; omega
  have c_need_heap : Cal X.prog X.w X.K X.mg X.base 7 "need_heap" (toSp X.K 0 ct_need_heap) := cal_need_heap Z
  have c_met : Cal X.prog X.w X.K X.mg X.base 4 "met" (toSp X.K 0 ct_met) := cal_met Z
  have m_tuple : X.mg "tuple" = none := Z.b_tuple
  have m_enumerate : X.mg "enumerate" = none := Z.b_enumerate
  have c_is_pointer : Cal X.prog X.w X.K X.mg X.base 3 "is_pointer" (toSp X.K 0 ct_is_pointer) := cal_is_pointer Z
  obtain ⟨hds, hp⟩ := hp
  subst hds
  show WSs X [] (_ :: _) [ some (heaD a.1), some (D.int a.2), none, none, none, none, none] _
  obtain ⟨h, wd⟩ := a
  dsimp only at hp ⊢
  have few := hp.few
  have imh : Imms (h.map recD) := imms_rec
  have imh' : Imm (heaD h) := imms_rec
  have ok := metH_ok hp
  have lo := ok.len
  walk_at "go"
  refine ⟨(h, wd), ⟨rfl, hp⟩, fun d hd => ?_⟩
  have hd : d = .non := hd
  subst hd
  walk_at "go"
  refine ⟨(h, wd), ⟨rfl, hp⟩, fun d hd => ?_⟩
  have hd : d = .lst ((metH h).map D.int) := hd
  subst hd
  walk_at "go"
  refine' wo_dcX (own := [("at", 4), ("record", 5)]) rfl hNd ?ok ?hg ?_ ?hs
  case ok => exact (show BlkOk ["heap", "wide", "order", "place", "at", "record", "value"] (defScope s_seen) _ [("at", 4), ("record", 5)] from ⟨rfl, by decide +kernel, by decide +kernel, by decide +kernel, by decide +kernel⟩)
  case hs => exact fun _ => rfl
  case hg => exact blk_pair rfl hNd hN4 hN5 rfl rfl
  refine wi_enumL rfl m_enumerate ?_
  walk_at "go"
  rw [List.length_map]
  refine ⟨metH h, (rng (metH h).length).map D.int, rfl, by rw [List.length_map, rng_len], by omega, ok.nd, imms_ints, ?_, ?_, ?_⟩
  · intro p hpw
    rw [List.mem_singleton.mp hpw]
    rfl
  · intro j n d ej ed
    have hj : j < (metH h).length := (List.getElem?_eq_some_iff.mp ej).1
    have e2 : d = .int (j : Int) := by
      rw [List.getElem?_map, List.getElem?_eq_getElem (by rw [rng_len]; exact hj)] at ed
      have e3 := rng_get hj
      rw [List.getD_eq_getElem?_getD, List.getElem?_eq_getElem (by rw [rng_len]; exact hj)] at e3
      cases ed
      exact congrArg D.int e3
    subst e2
    have eg : ((metH h).map D.int).getD j .non = .int n := by rw [List.getD_eq_getElem?_getD, List.getElem?_map, ej]; rfl
    show ∃ E2, TgB _ _ _ (.tup [.int (j : Int), ((metH h).map D.int).getD j .non]) _ E2 ∧ _
    rw [eg]
    refine ⟨_, tgb_pair (by decide) (by decide) (Nat.le_of_ble_eq_true rfl) (Nat.le_of_ble_eq_true rfl), fun s H C cl fp => ?_⟩
    walk_at "go"
    refine ⟨rfl, fun s H C cl fp => ?_⟩
    walk_at "go"
    exact ⟨rfl, rfl⟩
  refine ⟨_, rfl, Nat.le_of_ble_eq_true rfl, ?_⟩
  show WSs _ _ _ [some (heaD h), some (.int wd), some (.lst ((metH h).map D.int)), some (.dic ((metH h).map Sum.inl) ((rng (metH h).length).map D.int)), none, none, none] _
  walk_at "go"
  refine' wo_lcX (own := [("record", 5)]) rfl hNd ?ok ?hg ?_ ?hs
  case ok => exact (show BlkOk ["heap", "wide", "order", "place", "at", "record", "value"] (defScope s_seen) _ [("record", 5)] from ⟨rfl, by decide +kernel, by decide +kernel, by decide +kernel, by decide +kernel⟩)
  case hs => exact fun _ => rfl
  case hg => exact blk_name hNd hN5 rfl
  refine wi_lst ?_
  walk_at "go"
  rw [List.length_map]
  refine ⟨Int, metH h, D.int, fun q => some (recD ((h.getD q.toNat []).map (rnV (metH h)))), rfl, by omega, fun j hj => src_ints hj, ?_, ?_, ?_⟩
  · intro p hpw
    rw [List.mem_singleton.mp hpw]
    rfl
  · intro q hqm
    obtain ⟨q0, q1⟩ := ok.b _ hqm
    obtain ⟨q, rfl⟩ : ∃ q' : Nat, q = q' := ⟨q.toNat, by omega⟩
    have hq : q < h.length := by omega
    have eh : h.getD (Int.toNat (q : Int)) [] = h[q] := by rw [Int.toNat_natCast, List.getD_eq_getElem?_getD, List.getElem?_eq_getElem hq]; rfl
    have clo : ∀ n, HV.ptr n ∈ h[q] → (n : Int) ∈ metH h := fun n hn => metH_clo hp hqm (by rw [List.getD_eq_getElem?_getD, List.getElem?_eq_getElem hq]; exact hn)
    have hr := List.getElem_mem hq
    have okr := hp.ok _ hr
    have lr := hp.len _ hr
    have h6 := hp.w6
    have eat : atI (h.map recD) (q : Int) = some (recD h[q]) := by rw [ix_nat (by omega), Int.toNat_natCast, List.getElem?_map, List.getElem?_eq_getElem hq]; rfl
    generalize h[q] = r at hr okr lr clo eat eh
    have imr : Imms (r.map hvD) := imms_hv
    have imr' : Imm (recD r) := imms_hv
    have imd : Imms ((r.map (rnV (metH h))).map hvD) := imms_hv
    refine ⟨_, tgb_name (by decide) (Nat.le_of_ble_eq_true rfl), fun s H C cl fp => ?_⟩
    try dsimp only [List.set]
    refine wif_nil ⟨fun _ s H C cl fp => ?_, fun h => Bool.noConfusion h⟩
    walk_at "go"
    refine' wo_lcX (own := [("value", 6)]) rfl hNd ?ok ?hg ?_ ?hs
    case ok => exact (show BlkOk ["heap", "wide", "order", "place", "at", "record", "value"] ({ kind := .function, names := [(".0", .local), ("record", .local), ("tuple", .globalImplicit), ("heap", .cell), ("place", .cell)], isGenerator := false, isCoroutine := false } : Scope) _ [("value", 6)] from ⟨rfl, by decide +kernel, by decide +kernel, by decide +kernel, by decide +kernel⟩)
    case hs => exact fun _ => rfl
    case hg => exact blk_name hNd hN6 rfl
    refine wi_tup ?_
    walk_at "go"
    rw [List.length_map]
    refine ⟨HV, r, hvD, fun v => some (hvD (rnV (metH h) v)), rfl, by omega, fun j hj => hv_at hj, (fun p h => nomatch h), ?_, ?_⟩
    · intro v hv
      have okv := okr v hv
      have iv : Imm (hvD v) := imm_hv v
      have clv : ∀ n, v = .ptr n → (n : Int) ∈ metH h := fun n e => clo n (e ▸ hv)
      refine ⟨_, tgb_name (by decide) (Nat.le_of_ble_eq_true rfl), fun s H C cl fp => ?_⟩
      try dsimp only [List.set]
      refine wif_nil ⟨fun _ s H C cl fp => ?_, fun h => Bool.noConfusion h⟩
      walk_at "go"
      refine ⟨v, ⟨rfl, okv.small few⟩, fun d hd => ?_⟩
      have hd : d = .bl v.isP := hd
      subst hd
      rcases v with _ | i | n
      · walk_at "go"
        exact ⟨rfl, rfl⟩
      · walk_at "go"
        exact ⟨rfl, rfl⟩
      · have hin := clv n rfl
        have hix := List.idxOf_lt_length_of_mem hin
        walk_at "go"
        refine ⟨_, _, (n : Int), (metH h).idxOf (n : Int), .int (((metH h).idxOf (n : Int) : Nat) : Int), rfl, rfl, nodup_inl ok.nd, ?_, ?_, trivial, ?_⟩
        · rw [List.getElem?_map, List.getElem?_eq_getElem hix, List.getElem_idxOf]
          rfl
        · have e3 := rng_get hix
          rw [List.getD_eq_getElem?_getD, List.getElem?_eq_getElem (by rw [rng_len]; exact hix)] at e3
          rw [List.getElem?_map, List.getElem?_eq_getElem (by rw [rng_len]; exact hix)]
          exact congrArg (fun z => some (D.int z)) e3
        walk_at "go"
        exact ⟨rfl, rfl⟩
    · have ef : (r.filterMap fun v => some (hvD (rnV (metH h) v))) = (r.map (rnV (metH h))).map hvD := by rw [fm_some, List.map_map]; rfl
      rw [ef]
      walk_at "go"
      refine ⟨?_, rfl⟩
      show some (recD ((h.getD (Int.toNat (q : Int)) []).map (rnV (metH h)))) = _
      rw [eh]
      rfl
  · have ef : ((metH h).filterMap fun q => some (recD ((h.getD q.toNat []).map (rnV (metH h))))) = (seeH h).map recD := by rw [fm_some]; unfold seeH; rw [List.map_map]; rfl
    rw [ef]
    have ims : Imms ((seeH h).map recD) := imms_rec
    refine ⟨_, rfl, ims, ?_⟩
    walk_at "go"
    exact ⟨[], rfl, rfl⟩
end
end
section
local macro_rules | `(tactic| walk_at "kit") => `(tactic| first | with_reducible exact kit_ii | with_reducible exact kit_ib | with_reducible exact kit_it | with_reducible exact kit_tt | with_reducible exact kit_ti | with_reducible exact kit_bb | with_reducible exact kit_bi | with_reducible exact kit_ll | with_reducible exact kit_dd | with_reducible exact kit_ss | with_reducible exact kit_ni | with_reducible exact kit_nt)
def ct_law_as_deed : Ct := ⟨Sta × Int × Nat × Nat × Nat, fun a ds => ds = [sD a.1, .int a.2.2.1, .int a.2.2.2.1, .int a.2.2.2.2] ∧ SOk a.2.1 a.1 ∧ (1 ≤ a.2.2.1 ∧ a.2.2.1 ≤ 6) ∧ (1 ≤ a.2.2.2.1 ∧ a.2.2.2.1 ≤ 1000) ∧ a.2.2.2.2 ≤ 7 ∧ a.2.1 ≤ 80000000000,
  fun a d ds => ∃ (cs : List Chg) (s : Sta), d = .lst (cs.map chgD) ∧ OkD a.2.2.1 a.2.2.2.1 cs ∧ cs.length ≤ a.2.2.2.2 ∧ ds = [sD s] ∧ SOk (a.2.1 + 200) s⟩
section
variable {P : Program} {w : World} {K : PySem.W.Frag} {mg : Str → Option Value} {base : Heap}
theorem hv_snoc {vs : Rec} {v : HV} : vs.map hvD ++ [hvD v] = (vs ++ [v]).map hvD := by rw [List.map_append]; rfl
theorem chg_snoc {cs : List Chg} {c : Chg} : cs.map chgD ++ [chgD c] = (cs ++ [c]).map chgD := by rw [List.map_append]; rfl
theorem cal_law_as_deed (Z : Fz K mg) : Cal P w K mg base 5 "_law_as_deed" (toSp K 1 ct_law_as_deed) := by
  refine cal_of Z.d_law_as_deed sc_law_as_deed (fun a ds h => by rw [h.1]; rfl) (by decide) ?_
  intro f cdv A outer s H E hr (a : Sta × Int × Nat × Nat × Nat ) ds hp X
  have hNd : X.N.Nodup := sc_law_as_deed.nd
  have hN0 : X.N[0]? = some ("state" : Str) := rfl
  have hN1 : X.N[1]? = some ("wide" : Str) := rfl
  have hN2 : X.N[2]? = some ("many" : Str) := rfl
  have hN3 : X.N[3]? = some ("most" : Str) := rfl
  have hN4 : X.N[4]? = some ("found" : Str) := rfl
  have hN5 : X.N[5]? = some ("turn" : Str) := rfl
  have hN6 : X.N[6]? = some ("at" : Str) := rfl
  have hR : Room 4 X.A := hr
  have hu64 : X.A.units + 64 < cLine := by have := hR.un; omega
  have hu1 : X.A.units + 1 < cLine := by have := hR.un; omega
  have m_range : X.mg "range" = none := Z.b_range
  have c_law_draw : Cal X.prog X.w X.K X.mg X.base 2 "_law_draw" (toSp X.K 1 ct_law_draw) := cal_law_draw Z
  have m_tuple : X.mg "tuple" = none := Z.b_tuple
  have c_law_as_value : Cal X.prog X.w X.K X.mg X.base 4 "_law_as_value" (toSp X.K 1 ct_law_as_value) := cal_law_as_value Z
  obtain ⟨hds, hp⟩ := hp
  subst hds
  show WSs X [0] (_ :: _) [ some (sD a.1), some (D.int a.2.2.1), some (D.int a.2.2.2.1), some (D.int a.2.2.2.2), none, none, none] _
  obtain ⟨s, n, w, m, b⟩ := a
  obtain ⟨ok, ⟨hw1, hw6⟩, ⟨hm1, hm2⟩, hb, hn⟩ := hp
  dsimp only at ok hw1 hw6 hm1 hm2 hb hn ⊢
  walk_at "go"
  refine ws_for PassesOwn.never rfl ?_
  refine wi_range1 (by exact rfl) m_range ?_ (by rfl) (by rfl)
  walk_at "go"
  refine ⟨(_, _, _), ⟨rfl, by with_reducible assumption, by dsimp only; (try simp only [ncast]); omega, by dsimp only; omega⟩, ?_⟩
  rintro _ _ ⟨r, s1, rfl, hr, hd, oks1⟩
  cases hd
  dsimp only at hr oks1
  try simp only [ncast] at hr
  dsimp only [List.set]
  walk_at "go"
  obtain ⟨laps, rfl⟩ : ∃ laps : Nat, r = laps := ⟨r.toNat, by omega⟩
  rw [Int.toNat_natCast]
  refine ⟨fun j E' => ∃ (cs : List Chg) (s' : Sta) (o5 o6 : Option D), E' = [some (sD s'), some (.int w), some (.int (aft m cs)), some (.int b), some (.lst (cs.map chgD)), o5, o6] ∧ OkD w m cs ∧ cs.length = j ∧ SOk (n + 1 + 20 * j) s', ⟨[], s1, _, _, rfl, trivial, rfl, oks1.mono (by omega)⟩, (fun _ _ _ _ p h => nomatch h), ?_, ?_⟩
  · rintro j E' hj ⟨cs, s2, o5, o6, rfl, okc, lc, ok2⟩
    have la := aft_le (cs := cs) (m := m)
    have lb := le_aft (cs := cs) (m := m)
    have eaf := fun c => aft_add (m := m) (cs := cs) (c := c)
    have oka := fun c (h : Chg.ok w (aft m cs) c) => OkD.add okc h
    generalize aft m cs = M at la lb eaf oka ⊢
    walk_at "go"
    refine ⟨(_, _, _), ⟨rfl, by with_reducible assumption, by dsimp only; (try simp only [ncast]); omega, by dsimp only; omega⟩, ?_⟩
    rintro _ _ ⟨r3, s3, rfl, hr3, hd, oks3⟩
    cases hd
    dsimp only at hr3 oks3
    try simp only [ncast] at hr3
    dsimp only [List.set]
    walk_at "go"
    refine ⟨fun h => ?_, fun h => ?_⟩
    · walk_at "go"
      refine' wo_lc (own := [("at", 6)]) rfl hNd ?ok ?hg ?_ ?hs
      case ok => exact (show BlkOk ["state", "wide", "many", "most", "found", "turn", "at"] (defScope s_law_as_deed) _ [("at", 6)] from ⟨rfl, by decide +kernel, by decide +kernel, by decide +kernel, by decide +kernel⟩)
      case hs => exact fun _ => rfl
      case hg => exact blk_name hNd hN6 rfl
      refine wi_range1 (by exact rfl) m_range ?_ (by rfl) (by rfl)
      walk_at "go"
      rw [Int.toNat_natCast]
      refine ⟨fun j' acc E' => ∃ (vs : Rec) (s' : Sta), acc = vs.map hvD ∧ vs.length = j' ∧ (∀ v ∈ vs, v.ok (M + 1)) ∧ SOk (n + 2 + 20 * j + 2 * j') s' ∧ E' = [some (sD s'), some (.int w), some (.int M), some (.int b), some (.lst (cs.map chgD)), some (.int (0 + (j : Int))), none], ⟨[], s3, rfl, rfl, (fun v h => nomatch h), oks3.mono (by omega), rfl⟩, (fun _ _ _ _ _ p h => nomatch h), ?_, ?_⟩
      · rintro j' acc E' hj' ⟨vs, s4, rfl, lv, okv, ok4, rfl⟩
        refine ⟨_, tgb_name (by decide) (Nat.le_of_ble_eq_true rfl), fun s H C cl fp => ?_⟩
        try dsimp only [List.set]
        refine wif_nil ⟨fun _ s H C cl fp => ?_, fun h => Bool.noConfusion h⟩
        walk_at "go"
        refine ⟨(s4, _, M + 1), ⟨rfl, ok4, by dsimp only; omega, by dsimp only; omega⟩, ?_⟩
        rintro _ _ ⟨v, s5, rfl, hv, hd, ok5⟩
        cases hd
        dsimp only at hv ok5
        walk_at "go"
        refine ⟨by rw [List.length_map]; omega, vs ++ [v], s5, hv_snoc, by rw [List.length_append, lv]; rfl, fun u hu => ?_, ok5.mono (by push_cast; omega), rfl⟩
        rcases List.mem_append.mp hu with q | q
        · exact okv u q
        · rw [List.mem_singleton.mp q]; exact hv
      · rintro acc E' ⟨vs, s4, rfl, lv, okv, ok4, rfl⟩
        have imv : Imms (vs.map hvD) := imms_hv
        walk_at "go"
        refine ⟨by rw [List.length_map]; omega, ?_⟩
        walk_at "go"
        refine ⟨cs ++ [.mk vs], s4, some (.int (0 + (j : Int))), none, ?_, oka (.mk vs) ⟨lv, okv⟩, by rw [List.length_append, lc]; rfl, ok4.mono (by push_cast; omega)⟩
        rw [eaf, ← chg_snoc]
        rfl
    · walk_at "go"
      refine ⟨(_, _, _), ⟨rfl, by with_reducible assumption, by dsimp only; (try simp only [ncast]); omega, by dsimp only; omega⟩, ?_⟩
      rintro _ _ ⟨r4, s4, rfl, hr4, hd, oks4⟩
      cases hd
      dsimp only at hr4 oks4
      try simp only [ncast] at hr4
      dsimp only [List.set]
      walk_at "go"
      refine ⟨(_, _, _), ⟨rfl, by with_reducible assumption, by dsimp only; (try simp only [ncast]); omega, by dsimp only; omega⟩, ?_⟩
      rintro _ _ ⟨r5, s5, rfl, hr5, hd, oks5⟩
      cases hd
      dsimp only at hr5 oks5
      try simp only [ncast] at hr5
      dsimp only [List.set]
      walk_at "go"
      refine ⟨(s5, _, M), ⟨rfl, oks5, by dsimp only; omega, by dsimp only; omega⟩, ?_⟩
      rintro _ _ ⟨v, s6, rfl, hv, hd, ok6⟩
      cases hd
      dsimp only at hv ok6
      obtain ⟨i1, rfl⟩ : ∃ i : Nat, r4 = i := ⟨r4.toNat, by omega⟩
      obtain ⟨i2, rfl⟩ : ∃ i : Nat, r5 = i := ⟨r5.toNat, by omega⟩
      have imv : Imm (hvD v) := imm_hv v
      walk_at "go"
      refine ⟨by rw [List.length_map]; omega, ?_⟩
      walk_at "go"
      refine ⟨cs ++ [.st i1 i2 v], s6, some (.int (0 + (j : Int))), o6, ?_, oka (.st i1 i2 v) ⟨by omega, by omega, hv⟩, by rw [List.length_append, lc]; rfl, ok6.mono (by push_cast; omega)⟩
      rw [eaf, ← chg_snoc]
      rfl
  · rintro E' ⟨cs, s2, o5, o6, rfl, okc, lc, ok2⟩
    have imc : Imms (cs.map chgD) := imms_chg
    walk_at "go"
    exact ⟨[sD s2], rfl, cs, s2, rfl, okc, by dsimp only; omega, rfl, ok2.mono (by dsimp only; omega)⟩
end
end
section
local macro_rules | `(tactic| walk_at "kit") => `(tactic| first | with_reducible exact kit_ii | with_reducible exact kit_ib | with_reducible exact kit_it | with_reducible exact kit_tt | with_reducible exact kit_ti | with_reducible exact kit_bb | with_reducible exact kit_bi | with_reducible exact kit_ll | with_reducible exact kit_dd | with_reducible exact kit_ss | with_reducible exact kit_ni | with_reducible exact kit_nt)
def ct_law_as_story : Ct := ⟨Sta × Int × Nat × Nat × Nat, fun a ds => ds = [sD a.1, .int a.2.2.1, .int a.2.2.2.1, .int a.2.2.2.2] ∧ SOk a.2.1 a.1 ∧ (1 ≤ a.2.2.1 ∧ a.2.2.1 ≤ 6) ∧ a.2.2.2.1 ≤ 10 ∧ a.2.2.2.2 ≤ 6 ∧ a.2.1 ≤ 70000000000,
  fun a d ds => ∃ (ps : List Pr) (s : Sta), d = .lst (ps.map prD) ∧ StO a.2.2.1 a.2.2.2.2 ps ∧ ps.length = a.2.2.2.1 ∧ ds = [sD s] ∧ SOk (a.2.1 + 4000) s⟩
section
variable {P : Program} {w : World} {K : PySem.W.Frag} {mg : Str → Option Value} {base : Heap}
theorem chg_at {cs : List Chg} {j : Nat} (h : j < cs.length) : (cs.map chgD).getD j .non = chgD cs[j] := by
  rw [List.getD_eq_getElem?_getD, List.getElem?_map, List.getElem?_eq_getElem h]; rfl
theorem fm_len : ∀ {cs : List Chg}, (cs.filterMap fun c => if c.isM then some (D.int 1) else none).length = (cs.filter Chg.isM).length
  | [] => rfl
  | .mk r :: cs => by
    rw [List.filterMap_cons, List.filter_cons_of_pos rfl]
    exact congrArg (· + 1) (fm_len (cs := cs))
  | .st i j v :: cs => by
    rw [List.filterMap_cons, List.filter_cons_of_neg (by exact Bool.false_ne_true)]
    exact fm_len (cs := cs)
theorem cal_law_as_story (Z : Fz K mg) : Cal P w K mg base 6 "_law_as_story" (toSp K 1 ct_law_as_story) := by
  refine cal_of Z.d_law_as_story sc_law_as_story (fun a ds h => by rw [h.1]; rfl) (by decide) ?_
  intro f cdv A outer s H E hr (a : Sta × Int × Nat × Nat × Nat ) ds hp X
  have hNd : X.N.Nodup := sc_law_as_story.nd
  have hN0 : X.N[0]? = some ("state" : Str) := rfl
  have hN1 : X.N[1]? = some ("wide" : Str) := rfl
  have hN2 : X.N[2]? = some ("versions" : Str) := rfl
  have hN3 : X.N[3]? = some ("most" : Str) := rfl
  have hN4 : X.N[4]? = some ("found" : Str) := rfl
  have hN5 : X.N[5]? = some ("sizes_here" : Str) := rfl
  have hN6 : X.N[6]? = some ("lined" : Str) := rfl
  have hN7 : X.N[7]? = some ("turn" : Str) := rfl
  have hN8 : X.N[8]? = some ("parent" : Str) := rfl
  have hN9 : X.N[9]? = some ("deed" : Str) := rfl
  have hN10 : X.N[10]? = some ("change" : Str) := rfl
  have hR : Room 5 X.A := hr
  have hu64 : X.A.units + 64 < cLine := by have := hR.un; omega
  have hu1 : X.A.units + 1 < cLine := by have := hR.un; omega
  have c_law_draw : Cal X.prog X.w X.K X.mg X.base 2 "_law_draw" (toSp X.K 1 ct_law_draw) := cal_law_draw Z
  have m_range : X.mg "range" = none := Z.b_range
  have c_law_as_deed : Cal X.prog X.w X.K X.mg X.base 5 "_law_as_deed" (toSp X.K 1 ct_law_as_deed) := cal_law_as_deed Z
  have m_len : X.mg "len" = none := Z.b_len
  obtain ⟨hds, hp⟩ := hp
  subst hds
  show WSs X [0] (_ :: _) [ some (sD a.1), some (D.int a.2.2.1), some (D.int a.2.2.2.1), some (D.int a.2.2.2.2), none, none, none, none, none, none, none] _
  obtain ⟨s, n, w, vn, b⟩ := a
  obtain ⟨ok, ⟨hw1, hw6⟩, hvn, hb, hn⟩ := hp
  dsimp only at ok hw1 hw6 hvn hb hn ⊢
  refine wss_cons ?_
  refine' ws_par rfl hNd hN4 hN5 (by decide) (by decide) (by decide) rfl rfl ?_ ?hw ?hs
  case hw => rfl
  case hs => rfl
  walk_at "go"
  refine ⟨(_, _, _), ⟨rfl, by with_reducible assumption, by dsimp only; (try simp only [ncast]); omega, by dsimp only; omega⟩, ?_⟩
  rintro _ _ ⟨r, s1, rfl, hr, hd, oks1⟩
  cases hd
  dsimp only at hr oks1
  try simp only [ncast] at hr
  dsimp only [List.set]
  walk_at "go"
  refine ws_for PassesOwn.never rfl ?_
  refine wi_range1 (by exact rfl) m_range ?_ (by rfl) (by rfl)
  walk_at "go"
  rw [Int.toNat_natCast]
  refine ⟨fun j E' => ∃ (ps : List Pr) (s' : Sta) (o7 o8 o9 : Option D), E' = [some (sD s'), some (.int w), some (.int vn), some (.int b), some (.lst (ps.map prD)), some (.lst ((szI ps).map D.int)), some (.int r), o7, o8, o9, none] ∧ StO w b ps ∧ ps.length = j ∧ SOk (n + 1 + 300 * j) s', ⟨[], s1, _, _, _, rfl, StO.nil, rfl, oks1.mono (by omega)⟩, (fun _ _ _ _ p h => nomatch h), ?_, ?_⟩
  · rintro j E' hj ⟨ps, s2, o7, o8, o9, rfl, oks, lp, ok2⟩
    have ls := szI_len (ps := ps)
    have lm : ((szI ps).map D.int).length = j + 1 := by rw [List.length_map]; omega
    have hbj : b * j ≤ 6 * 10 := Nat.mul_le_mul hb (by omega)
    have hsz := szs_le j lp oks
    refine' wg_name hNd hN7 (.inl rfl) (by decide) (Nat.le_of_ble_eq_true rfl) ?_ (.inl rfl)
    dsimp only [List.set]
    refine wss_cut (fun E' => E' = [some (sD s2), some (.int w), some (.int vn), some (.int b), some (.lst (ps.map prD)), some (.lst ((szI ps).map D.int)), some (.int r), some (.int (0 + (j : Int))), some (.int ((j : Nat) : Int)), o9, none]) ?_ ?_
    · walk_at "go"
      rw [lm]
      have e : ((j + 1 : Nat) : Int) - 1 = (j : Int) := by omega
      rw [e]
    rintro E' rfl
    refine wss_cut (fun E' => ∃ (q : Nat) (s' : Sta), q ≤ j ∧ SOk (n + 1 + 300 * j + 3) s' ∧ E' = [some (sD s'), some (.int w), some (.int vn), some (.int b), some (.lst (ps.map prD)), some (.lst ((szI ps).map D.int)), some (.int r), some (.int (0 + (j : Int))), some (.int (q : Int)), o9, none]) ?_ ?_
    · walk_at "go"
      refine ⟨fun h => ?_, fun h => ?_⟩
      · walk_at "go"
        refine ⟨(_, _, _), ⟨rfl, by with_reducible assumption, by dsimp only; (try simp only [ncast]); omega, by dsimp only; omega⟩, ?_⟩
        rintro _ _ ⟨q, s3, rfl, hq, hd, oks3⟩
        cases hd
        dsimp only at hq oks3
        try simp only [ncast] at hq
        dsimp only [List.set]
        obtain ⟨q, rfl⟩ : ∃ q' : Nat, q = q' := ⟨q.toNat, by omega⟩
        walk_at "go"
        exact ⟨q, s3, by omega, oks3.mono (by omega), rfl⟩
      · walk_at "go"
        refine ⟨fun h1 => ?_, fun h1 => ?_⟩
        · walk_at "go"
          refine ⟨(_, _, _), ⟨rfl, by with_reducible assumption, by dsimp only; (try simp only [ncast]); omega, by dsimp only; omega⟩, ?_⟩
          rintro _ _ ⟨t, s3, rfl, ht, hd, oks3⟩
          cases hd
          dsimp only at ht oks3
          try simp only [ncast] at ht
          dsimp only [List.set]
          walk_at "go"
          refine ⟨fun h2 => ?_, fun h2 => ?_⟩
          · walk_at "go"
            refine ⟨(_, _, _), ⟨rfl, by with_reducible assumption, by dsimp only; (try simp only [ncast]); omega, by dsimp only; omega⟩, ?_⟩
            rintro _ _ ⟨q, s4, rfl, hq, hd, oks4⟩
            cases hd
            dsimp only at hq oks4
            try simp only [ncast] at hq
            dsimp only [List.set]
            obtain ⟨q, rfl⟩ : ∃ q' : Nat, q = q' := ⟨q.toNat, by omega⟩
            walk_at "go"
            exact ⟨q, s4, by omega, oks4.mono (by omega), rfl⟩
          · walk_at "go"
            exact ⟨j, s3, Nat.le_refl _, oks3.mono (by omega), rfl⟩
        · walk_at "go"
          exact ⟨j, s2, Nat.le_refl _, ok2.mono (by omega), rfl⟩
    rintro E' ⟨q, s3, hq, ok3, rfl⟩
    have hs := hsz q (by omega)
    have eat : atI ((szI ps).map D.int) (q : Int) = some (.int (((szs ps).getD q 0 : Nat) : Int)) := by rw [ix_nat (by omega), Int.toNat_natCast, List.getElem?_map, szI_at (by omega)]; rfl
    have oka := fun (cs : List Chg) h2 h3 => oks.add (p := (q, cs)) (by dsimp only; omega) h2 h3
    have esz := fun (cs : List Chg) => szI_add (ps := ps) (p := (q, cs))
    dsimp only at oka esz
    generalize (szs ps).getD q 0 = M at hs eat oka esz
    walk_at "go"
    refine ⟨(s3, _, w, M, b), ⟨rfl, ok3, ⟨hw1, hw6⟩, ⟨by dsimp only; omega, by dsimp only; omega⟩, Nat.le_succ_of_le hb, by dsimp only; omega⟩, ?_⟩
    rintro _ _ ⟨cs, s4, rfl, okc, lc, hd, ok4⟩
    cases hd
    dsimp only at okc lc ok4
    dsimp only [List.set]
    refine ⟨_, rfl, Nat.le_of_ble_eq_true rfl, ?_⟩
    refine wss_frz 9 rfl canFs_chg ?_
    rw [frz_chgs]
    dsimp only [List.set]
    have imc : Imms (cs.map chgD) := imms_chg
    walk_at "go"
    refine ⟨by rw [List.length_map]; omega, ?_⟩
    walk_at "go"
    refine' wo_lcX (own := [("change", 10)]) rfl hNd ?ok ?hg ?_ ?hs
    case ok => exact (show BlkOk ["state", "wide", "versions", "most", "found", "sizes_here", "lined", "turn", "parent", "deed", "change"] (defScope s_law_as_story) _ [("change", 10)] from ⟨rfl, by decide +kernel, by decide +kernel, by decide +kernel, by decide +kernel⟩)
    case hs => exact fun _ => rfl
    case hg => exact blk_name hNd hN10 rfl
    refine wi_lst ?_
    walk_at "go"
    rw [List.length_map]
    refine ⟨Chg, cs, chgD, fun c => if c.isM then some (.int 1) else none, rfl, by omega, fun j h => chg_at h, (fun p h => nomatch h), ?_, ?_⟩
    · intro c hc
      refine ⟨_, tgb_name (by decide) (Nat.le_of_ble_eq_true rfl), fun s H C cl fp => ?_⟩
      try dsimp only [List.set]
      refine wif_one ?_
      rcases c with r' | ⟨i1, i2, v⟩
      · rw [show chgD (.mk r') = .tup [.str mkS, recD r'] from rfl]
        walk_at "go"
        refine ⟨_, _, _, rfl, rfl, cmp_eqS, ?_⟩
        refine ⟨fun _ s H C cl fp => ?_, fun h => absurd rfl (of_decide_eq_false h)⟩
        walk_at "go"
        exact ⟨rfl, rfl⟩
      · rw [show chgD (.st i1 i2 v) = .tup [.str seS, .int i1, .int i2, hvD v] from rfl]
        walk_at "go"
        refine ⟨_, _, _, rfl, rfl, rfl, trivial, ?_⟩
        walk_at "go"
        refine ⟨_, _, _, rfl, rfl, cmp_eqS, ?_⟩
        exact ⟨fun h => absurd (of_decide_eq_true h) (by decide), fun _ => ⟨rfl, rfl⟩⟩
    · refine ⟨_, rfl, ?_⟩
      rw [fm_len]
      walk_at "go"
      have e1 : (ps ++ [(q, cs)]).map DL.prD = ps.map DL.prD ++ [D.tup [.int q, .fz (cs.map chgD)]] := by rw [List.map_append]; rfl
      have e2 : (szI (ps ++ [(q, cs)])).map D.int = (szI ps).map D.int ++ [.int ((M : Int) + ((cs.filter Chg.isM).length : Int))] := by
        rw [esz, List.map_append, aft_count, Int.natCast_add]
        rfl
      refine ⟨ps ++ [(q, cs)], s4, some (.int (0 + (j : Int))), some (.int (q : Int)), some (.fz (cs.map chgD)), ?_, oka cs lc okc, by rw [List.length_append, lp]; rfl, ok4.mono (by push_cast; omega)⟩
      rw [e1, e2]
      rfl
  · rintro E' ⟨ps, s2, o7, o8, o9, rfl, oks, lp, ok2⟩
    walk_at "go"
    exact ⟨[sD s2], rfl, ps, s2, rfl, oks, lp, rfl, ok2.mono (by dsimp only; omega)⟩
end
end
section
local macro_rules | `(tactic| walk_at "kit") => `(tactic| first | with_reducible exact kit_ii | with_reducible exact kit_ib | with_reducible exact kit_it | with_reducible exact kit_tt | with_reducible exact kit_ti | with_reducible exact kit_bb | with_reducible exact kit_bi | with_reducible exact kit_ll | with_reducible exact kit_dd | with_reducible exact kit_ss | with_reducible exact kit_ni | with_reducible exact kit_nt)
/-- a deed as a list: one's own, or one that is known -/
def dl : Bool → List Chg → D
  | true, cs => .lst (cs.map chgD)
  | false, cs => .fz (cs.map chgD)
theorem canF_dl : ∀ {b : Bool} {cs : List Chg}, canF (dl b cs) = true
  | true, _ => canFs_chg
  | false, _ => rfl
theorem frz_dl : ∀ {b : Bool} {cs : List Chg}, frz (dl b cs) = .fz (cs.map chgD)
  | true, _ => frz_chgs
  | false, _ => rfl
def ct_law_as_done : Ct := ⟨Nat × Hea × List Chg × Bool, fun a ds => ds = [heaD a.2.1, dl a.2.2.2 a.2.2.1] ∧ WfH a.1 a.2.1 ∧ OkD a.1 a.2.1.length a.2.2.1 ∧ a.2.1.length + a.2.2.1.length ≤ 1000, fun a d _ => d = heaD (doD a.2.1 a.2.2.1)⟩
def ct_law_as_heaps : Ct := ⟨Nat × Nat × List Pr, fun a ds => ds = [.int a.1, .lst (a.2.2.map prD)] ∧ (1 ≤ a.1 ∧ a.1 ≤ 6) ∧ StO a.1 a.2.1 a.2.2 ∧ 1 + a.2.1 * a.2.2.length ≤ 1000 ∧ a.2.2.length ≤ 1000, fun a d _ => d = .lst ((heas a.1 a.2.2).map heaD)⟩
section
variable {P : Program} {w : World} {K : PySem.W.Frag} {mg : Str → Option Value} {base : Heap}
theorem sto_take {w b : Nat} {ps : List Pr} {j : Nat} (h : StO w b ps) : StO w b (ps.take j) := fun i p e => by
  have li := (List.getElem?_eq_some_iff.mp e).1
  rw [List.length_take] at li
  rw [List.getElem?_take_of_lt (by omega)] at e
  rw [List.take_take, Nat.min_eq_left (by omega)]
  exact h i p e
theorem imms_pr {ps : List Pr} : Imms (ps.map DL.prD) := imms_map fun p _ => ⟨trivial, trivial, trivial⟩
theorem imms_heas {hs : List Hea} : Imms (hs.map heaD) := imms_map fun h _ => imm_hea
theorem cal_law_as_done (Z : Fz K mg) : Cal P w K mg base 1 "_law_as_done" (toSp K 0 ct_law_as_done) := by
  refine cal_of Z.d_law_as_done sc_law_as_done (fun a ds h => by rw [h.1]; rfl) (by decide) ?_
  intro f cdv A outer s H E hr (a : Nat × Hea × List Chg × Bool ) ds hp X
  have hNd : X.N.Nodup := sc_law_as_done.nd
  have hN0 : X.N[0]? = some ("heap_here" : Str) := rfl
  have hN1 : X.N[1]? = some ("deed" : Str) := rfl
  have hN2 : X.N[2]? = some ("records_here" : Str) := rfl
  have hN3 : X.N[3]? = some ("change" : Str) := rfl
  have hN4 : X.N[4]? = some ("record" : Str) := rfl
  have hR : Room 0 X.A := hr
  have hu64 : X.A.units + 64 < cLine := by have := hR.un; omega
  have hu1 : X.A.units + 1 < cLine := by have := hR.un; omega
  have m_tuple : X.mg "tuple" = none := Z.b_tuple
  have m_list : X.mg "list" = none := Z.b_list
  obtain ⟨hds, hp⟩ := hp
  subst hds
  show WSs X [] (_ :: _) [ some (heaD a.2.1), some (dl a.2.2.2 a.2.2.1), none, none, none] _
  obtain ⟨w, h, cs, bb⟩ := a
  obtain ⟨wf, okc, few⟩ := hp
  dsimp only at wf okc few ⊢
  have imh : Imms (h.map recD) := imms_rec
  have imh' : Imm (heaD h) := imms_rec
  have imc : Imms (cs.map chgD) := imms_chg
  refine wss_frz 1 rfl canF_dl ?_
  rw [frz_dl]
  dsimp only [List.set]
  walk_at "go"
  refine' ws_setLcX (own := [("record", 4)]) rfl hNd hN2 rfl (by decide) ?ok ?hg ?_ ?sw ?hs
  case ok => exact (show BlkOk ["heap_here", "deed", "records_here", "change", "record"] (defScope s_law_as_done) _ [("record", 4)] from ⟨rfl, by decide +kernel, by decide +kernel, by decide +kernel, by decide +kernel⟩)
  case hs => exact fun _ => rfl
  case sw => exact sw_true rfl rfl rfl rfl
  case hg => exact blk_name hNd hN4 rfl
  refine wi_tup ?_
  walk_at "go"
  rw [List.length_map]
  refine ⟨Rec, h, recD, fun r => some (lrec r), rfl, by omega, fun j hj => rec_at hj, (fun p h => nomatch h), ?_, ?_⟩
  · intro r hr
    have imr : Imms (r.map hvD) := imms_hv
    have imr' : Imm (recD r) := imms_hv
    refine ⟨_, tgb_name (by decide) (Nat.le_of_ble_eq_true rfl), fun s H C cl fp => ?_⟩
    try dsimp only [List.set]
    refine wif_nil ⟨fun _ s H C cl fp => ?_, fun h => Bool.noConfusion h⟩
    walk_at "go"
    exact ⟨rfl, rfl⟩
  · have ef : (h.filterMap fun r => some (lrec r)) = (doD h (cs.take 0)).map lrec := by rw [fm_some]; rfl
    rw [ef]
    refine ⟨Nat.le_of_ble_eq_true rfl, ?_⟩
    show WSs _ _ _ [some (heaD h), some (.fz (cs.map chgD)), some (.lst ((doD h (cs.take 0)).map lrec)), none, none] _
    refine wss_cons ?_
    refine ws_for PassesOwn.never rfl ?_
    refine wi_lst ?_
    walk_at "go"
    rw [List.length_map]
    refine ⟨fun j E' => ∃ o3, E' = [some (heaD h), some (.fz (cs.map chgD)), some (.lst ((doD h (cs.take j)).map lrec)), o3, none], ⟨none, rfl⟩, (fun _ _ _ _ p h => nomatch h), ?_, ?_⟩
    · rintro j E' hj ⟨o3, rfl⟩
      obtain ⟨c, ec⟩ : ∃ c, cs[j]? = some c := ⟨_, List.getElem?_eq_getElem hj⟩
      obtain ⟨ok1, ok2⟩ := okd_at okc ec
      have lt : (cs.take j).length ≤ cs.length := List.length_take_le' ..
      obtain ⟨wg, lg⟩ := doD_wf wf ok1 (by omega)
      have la := aft_le (cs := cs.take j) (m := h.length)
      rw [← lg] at ok2 la
      have es : doD h (cs.take (j + 1)) = doC (doD h (cs.take j)) c := by
        rw [take_next ec]
        unfold doD
        rw [List.foldl_append]
        rfl
      generalize doD h (cs.take j) = g at wg lg ok2 la es ⊢
      show WG _ _ _ ((cs.map chgD).getD j .non) _ _
      rw [show (cs.map chgD).getD j .non = chgD c from by rw [List.getD_eq_getElem?_getD, List.getElem?_map, ec]; rfl]
      have ic := imm_chg c
      rcases c with r | ⟨i1, i2, v⟩
      · have imr : Imms (r.map hvD) := imms_hv
        have imr' : Imm (recD r) := imms_hv
        rw [show chgD (.mk r) = .tup [.str mkS, recD r] from rfl] at ic ⊢
        walk_at "go"
        refine ⟨_, _, _, rfl, rfl, cmp_eqS, ?_⟩
        refine ⟨fun _ => ?_, fun h => absurd rfl (of_decide_eq_false h)⟩
        walk_at "go"
        refine ⟨by rw [List.length_map]; omega, some (.tup [.str mkS, recD r]), ?_⟩
        rw [es, show (doC g (.mk r)).map lrec = g.map lrec ++ [lrec r] from List.map_append ..]
        rfl
      · have iv := imm_hv v
        rw [show chgD (.st i1 i2 v) = .tup [.str seS, .int i1, .int i2, hvD v] from rfl] at ic ⊢
        walk_at "go"
        refine ⟨_, _, _, rfl, rfl, rfl, trivial, ?_⟩
        walk_at "go"
        refine ⟨_, _, _, rfl, rfl, cmp_eqS, ?_⟩
        refine ⟨fun h => absurd (of_decide_eq_true h) (by decide), fun _ => ?_⟩
        walk_at "go"
        refine ⟨_, _, _, rfl, rfl, rfl, iv, ?_⟩
        obtain ⟨a1, a2, a3⟩ : i1 < g.length ∧ i2 < w ∧ v.ok g.length := ok2
        have lgi := wg.len _ (List.getElem_mem a1)
        have em : (doC g (.st i1 i2 v)).map lrec = (g.map lrec).set i1 (.lst ((g[i1].map hvD).set i2 (hvD v))) := by
          show (g.set i1 ((g.getD i1 []).set i2 v)).map lrec = _
          rw [List.map_set]
          have e : g.getD i1 [] = g[i1] := by rw [List.getD_eq_getElem?_getD, List.getElem?_eq_getElem a1]; rfl
          rw [e]
          unfold lrec
          rw [List.map_set]
        refine ⟨_, rfl, ?_⟩
        refine' wg_lput2 ?h1 ?h2 ?h3 ?_ ?h5 ?h6 ?h7 ?h8 ?h9
        case h1 => exact hN2
        case h2 => exact iv
        case h3 => exact fun _ _ => rfl
        case h5 => exact ⟨_, rfl⟩
        case h6 => walk_at "vis"
        case h7 => decide
        case h8 => decide
        case h9 => exact fun _ => rfl
        walk_at "go"
        refine ⟨_, _, _, rfl, rfl, rfl, trivial, ?_⟩
        refine ⟨i1, g.map lrec, g[i1].map hvD, rfl, rfl, by rw [List.getElem?_map, List.getElem?_eq_getElem a1]; rfl, imms_hv, ?_⟩
        walk_at "go"
        refine ⟨_, _, _, rfl, rfl, rfl, trivial, ?_⟩
        refine ⟨i2, rfl, rfl, by rw [List.length_map]; omega, some (.tup [.str seS, .int i1, .int i2, hvD v]), ?_⟩
        rw [es, em]
        rfl
    · rintro E' ⟨o3, rfl⟩
      rw [List.take_length]
      refine wss_frz 2 rfl canFs_lrec ?_
      rw [frz_lrec]
      dsimp only [List.set]
      walk_at "go"
      obtain ⟨wg, lg⟩ := doD_wf wf okc (by omega)
      have la := aft_le (cs := cs) (m := h.length)
      rw [← lg] at la
      generalize hg : doD h cs = g at wg lg la ⊢
      refine' wo_lcX (own := [("record", 4)]) rfl hNd ?ok ?hg ?_ ?hs
      case ok => exact (show BlkOk ["heap_here", "deed", "records_here", "change", "record"] (defScope s_law_as_done) _ [("record", 4)] from ⟨rfl, by decide +kernel, by decide +kernel, by decide +kernel, by decide +kernel⟩)
      case hs => exact fun _ => rfl
      case hg => exact blk_name hNd hN4 rfl
      refine wi_lst ?_
      walk_at "go"
      refine ⟨imms_map fun r _ => trivial, ?_⟩
      rw [List.length_map]
      refine ⟨Rec, g, fun r => D.fz (r.map hvD), fun r => some (recD r), rfl, by omega, fun j hj => (by show (g.map fun r => D.fz (r.map hvD)).getD j .non = D.fz (g[j].map hvD); rw [List.getD_eq_getElem?_getD, List.getElem?_map, List.getElem?_eq_getElem hj]; rfl), (fun p h => nomatch h), ?_, ?_⟩
      · intro r hr
        have imr : Imms (r.map hvD) := imms_hv
        refine ⟨_, tgb_name (by decide) (Nat.le_of_ble_eq_true rfl), fun s H C cl fp => ?_⟩
        try dsimp only [List.set]
        refine wif_nil ⟨fun _ s H C cl fp => ?_, fun h => Bool.noConfusion h⟩
        walk_at "go"
        exact ⟨rfl, rfl⟩
      · rw [fm_some]
        have img : Imms (g.map recD) := imms_rec
        walk_at "go"
        exact ⟨[], rfl, congrArg heaD hg.symm⟩
local macro_rules | `(tactic| walk_at "gBin") => `(tactic| with_reducible refine wo_mulE ?_)
theorem nonesD {w : Nat} : (List.replicate w [D.non]).flatten = (List.replicate w HV.non).map hvD := by
  induction w with
  | zero => rfl
  | succ w ih => rw [List.replicate_succ, List.flatten_cons, ih]; rfl
theorem cal_law_as_heaps (Z : Fz K mg) : Cal P w K mg base 2 "_law_as_heaps" (toSp K 0 ct_law_as_heaps) := by
  refine cal_of Z.d_law_as_heaps sc_law_as_heaps (fun a ds h => by rw [h.1]; rfl) (by decide) ?_
  intro f cdv A outer s H E hr (a : Nat × Nat × List Pr ) ds hp X
  have hNd : X.N.Nodup := sc_law_as_heaps.nd
  have hN0 : X.N[0]? = some ("wide" : Str) := rfl
  have hN1 : X.N[1]? = some ("story_here" : Str) := rfl
  have hN2 : X.N[2]? = some ("found" : Str) := rfl
  have hN3 : X.N[3]? = some ("parent" : Str) := rfl
  have hN4 : X.N[4]? = some ("deed" : Str) := rfl
  have hR : Room 1 X.A := hr
  have hu64 : X.A.units + 64 < cLine := by have := hR.un; omega
  have hu1 : X.A.units + 1 < cLine := by have := hR.un; omega
  have c_law_as_done : Cal X.prog X.w X.K X.mg X.base 1 "_law_as_done" (toSp X.K 0 ct_law_as_done) := cal_law_as_done Z
  obtain ⟨hds, hp⟩ := hp
  subst hds
  show WSs X [] (_ :: _) [ some (D.int a.1), some (D.lst (a.2.2.map DL.prD)), none, none, none] _
  obtain ⟨w, b, ps⟩ := a
  obtain ⟨⟨hw1, hw6⟩, okp, few, fewp⟩ := hp
  dsimp only at hw1 hw6 okp few fewp ⊢
  walk_at "go"
  refine ⟨_, _, _, rfl, rfl, MulE.tup rfl ⟨trivial, trivial⟩ (by simp) (by omega) (by decide), ?_⟩
  rw [Int.toNat_natCast, nonesD]
  walk_at "go"
  have imp : Imms (ps.map DL.prD) := imms_pr
  refine ws_for PassesOwn.never rfl ?_
  refine wi_lst ?_
  walk_at "go"
  rw [List.length_map]
  refine ⟨fun j E' => ∃ o3 o4, E' = [some (.int w), some (.lst (ps.map DL.prD)), some (.lst ((heas w (ps.take j)).map heaD)), o3, o4], ⟨none, none, rfl⟩, ?_, ?_, ?_⟩
  · rintro j E' hj ⟨o3, o4, rfl⟩ p hpw
    rw [List.mem_singleton.mp hpw]
    rfl
  · rintro j E' hj ⟨o3, o4, rfl⟩
    obtain ⟨p, ep⟩ : ∃ p, ps[j]? = some p := ⟨_, List.getElem?_eq_getElem hj⟩
    obtain ⟨p1, p2, p3⟩ := okp j p ep
    have lt : (ps.take j).length = j := by rw [List.length_take]; omega
    have hb : b * (j + 1) ≤ b * ps.length := Nat.mul_le_mul_left b hj
    rw [Nat.mul_succ] at hb
    obtain ⟨l1, l2⟩ := heas_wf hw1 hw6 j lt (sto_take (j := j) okp) (by omega)
    have es : heas w (ps.take (j + 1)) = heas w (ps.take j) ++ [doD ((heas w (ps.take j)).getD p.1 []) p.2] := by rw [take_next ep, heas_add]
    obtain ⟨g, eg⟩ : ∃ g, (heas w (ps.take j))[p.1]? = some g := ⟨_, List.getElem?_eq_getElem (by omega)⟩
    obtain ⟨w1, w2, w3⟩ := l2 p.1 g eg
    rw [List.getD_eq_getElem?_getD, eg] at es
    rw [List.getD_eq_getElem?_getD, w2] at p3
    have es : heas w (ps.take (j + 1)) = heas w (ps.take j) ++ [doD g p.2] := es
    have p3 : OkD w g.length p.2 := p3
    have eat : atI ((heas w (ps.take j)).map heaD) (p.1 : Int) = some (heaD g) := by rw [ix_nat (by omega), Int.toNat_natCast, List.getElem?_map, eg]; rfl
    have img : Imm (heaD g) := imm_hea
    generalize heas w (ps.take j) = hs at l1 es eat ⊢
    show WG _ _ _ ((ps.map DL.prD).getD j .non) _ _
    rw [show (ps.map DL.prD).getD j .non = .tup [.int p.1, .fz (p.2.map chgD)] from by rw [List.getD_eq_getElem?_getD, List.getElem?_map, ep]; rfl]
    walk_at "go"
    refine ⟨(w, g, p.2, false), ⟨rfl, w1, p3, by dsimp only; omega⟩, fun d hd => ?_⟩
    have hd : d = heaD (doD g p.2) := hd
    subst hd
    walk_at "go"
    refine ⟨by rw [List.length_map]; omega, some (.int p.1), some (.fz (p.2.map chgD)), ?_⟩
    rw [es, List.map_append]
    rfl
  · rintro E' ⟨o3, o4, rfl⟩
    rw [List.take_length]
    walk_at "go"
    exact ⟨[], rfl, rfl⟩
end
end
section
local macro_rules | `(tactic| walk_at "kit") => `(tactic| first | with_reducible exact kit_ii | with_reducible exact kit_ib | with_reducible exact kit_it | with_reducible exact kit_tt | with_reducible exact kit_ti | with_reducible exact kit_bb | with_reducible exact kit_bi | with_reducible exact kit_ll | with_reducible exact kit_dd | with_reducible exact kit_ss | with_reducible exact kit_ni | with_reducible exact kit_nt)
local macro_rules | `(tactic| walk_at "gCalN") => `(tactic| ((with_reducible refine wo_isiT ?h1 ?h2 ?_ ?h4 ?h5); (case h1 => rfl); (case h2 => with_reducible assumption); (case h4 => rfl); (case h5 => rfl)))
local macro_rules | `(tactic| walk_at "gBin") => `(tactic| with_reducible refine wo_mulE ?_)
local macro_rules | `(tactic| walk_at "gWO") => `(tactic| with_reducible refine wo_dic2 ?_)
local macro_rules | `(tactic| walk_at "ob") => `(tactic| (refine ⟨_, _, ?dd, rfl, rfl, ?hh, ?ii, ?_⟩; (case hh => first | with_reducible exact at4_0 | with_reducible exact at4_1 | with_reducible exact at4_2 | with_reducible exact at4_3); (case ii => first | trivial | assumption)))
theorem kit_lt : kitB "list" "tuple" = some false := by decide +kernel
section
variable {P : Program} {w : World} {K : PySem.W.Frag} {mg : Str → Option Value} {base : Heap}
end
end
section
local macro_rules | `(tactic| walk_at "kit") => `(tactic| first | with_reducible exact kit_ii | with_reducible exact kit_ib | with_reducible exact kit_it | with_reducible exact kit_tt | with_reducible exact kit_ti | with_reducible exact kit_bb | with_reducible exact kit_bi | with_reducible exact kit_ll | with_reducible exact kit_dd | with_reducible exact kit_ss | with_reducible exact kit_ni | with_reducible exact kit_nt)
local macro_rules | `(tactic| walk_at "gCalN") => `(tactic| ((with_reducible refine wo_isiT ?h1 ?h2 ?_ ?h4 ?h5); (case h1 => rfl); (case h2 => with_reducible assumption); (case h4 => rfl); (case h5 => rfl)))
local macro_rules | `(tactic| walk_at "gBin") => `(tactic| with_reducible refine wo_mulE ?_)
local macro_rules | `(tactic| walk_at "gWO") => `(tactic| with_reducible refine wo_dic2 ?_)
local macro_rules | `(tactic| walk_at "ob") => `(tactic| (refine ⟨_, _, ?dd, rfl, rfl, ?hh, ?ii, ?_⟩; (case hh => first | with_reducible exact at4_0 | with_reducible exact at4_1 | with_reducible exact at4_2 | with_reducible exact at4_3); (case ii => first | trivial | assumption)))
section
variable {P : Program} {w : World} {K : PySem.W.Frag} {mg : Str → Option Value} {base : Heap}
end
end
section
local macro_rules | `(tactic| walk_at "kit") => `(tactic| first | with_reducible exact kit_ii | with_reducible exact kit_ib | with_reducible exact kit_it | with_reducible exact kit_tt | with_reducible exact kit_ti | with_reducible exact kit_bb | with_reducible exact kit_bi | with_reducible exact kit_ll | with_reducible exact kit_dd | with_reducible exact kit_ss | with_reducible exact kit_ni | with_reducible exact kit_nt)
local macro_rules | `(tactic| walk_at "gCalN") => `(tactic| ((with_reducible refine wo_isiT ?h1 ?h2 ?_ ?h4 ?h5); (case h1 => rfl); (case h2 => with_reducible assumption); (case h4 => rfl); (case h5 => rfl)))
local macro_rules | `(tactic| walk_at "gBin") => `(tactic| with_reducible refine wo_mulE ?_)
local macro_rules | `(tactic| walk_at "gWO") => `(tactic| with_reducible refine wo_dic2 ?_)
local macro_rules | `(tactic| walk_at "ob") => `(tactic| (refine ⟨_, _, ?dd, rfl, rfl, ?hh, ?ii, ?_⟩; (case hh => first | with_reducible exact at4_0 | with_reducible exact at4_1 | with_reducible exact at4_2 | with_reducible exact at4_3); (case ii => first | trivial | assumption)))
section
variable {P : Program} {w : World} {K : PySem.W.Frag} {mg : Str → Option Value} {base : Heap}
end
end
section
local macro_rules | `(tactic| walk_at "kit") => `(tactic| first | with_reducible exact kit_ii | with_reducible exact kit_ib | with_reducible exact kit_it | with_reducible exact kit_tt | with_reducible exact kit_ti | with_reducible exact kit_bb | with_reducible exact kit_bi | with_reducible exact kit_ll | with_reducible exact kit_dd | with_reducible exact kit_ss | with_reducible exact kit_ni | with_reducible exact kit_nt)
local macro_rules | `(tactic| walk_at "gCalN") => `(tactic| ((with_reducible refine wo_isiT ?h1 ?h2 ?_ ?h4 ?h5); (case h1 => rfl); (case h2 => with_reducible assumption); (case h4 => rfl); (case h5 => rfl)))
local macro_rules | `(tactic| walk_at "gBin") => `(tactic| with_reducible refine wo_mulE ?_)
local macro_rules | `(tactic| walk_at "gWO") => `(tactic| with_reducible refine wo_dic2 ?_)
local macro_rules | `(tactic| walk_at "ob") => `(tactic| (refine ⟨_, _, ?dd, rfl, rfl, ?hh, ?ii, ?_⟩; (case hh => first | with_reducible exact at4_0 | with_reducible exact at4_1 | with_reducible exact at4_2 | with_reducible exact at4_3); (case ii => first | trivial | assumption)))
section
variable {P : Program} {w : World} {K : PySem.W.Frag} {mg : Str → Option Value} {base : Heap}
end
end
section
/-! ### the checks, of any value -/
abbrev cta_is_whole : Ct := ctv_is_whole
abbrev cta_is_number : Ct := ctv_is_number
section
variable {P : Program} {w : World} {K : PySem.W.Frag} {mg : Str → Option Value} {base : Heap}
theorem cala_is_whole (Z : Fz K mg) : Cal P w K mg base 1 "is_whole" (toSp K 0 cta_is_whole) := by
  refine cal_of Z.d_is_whole sc_is_whole (fun a ds h => by rw [h.1]; rfl) (by decide) ?_
  intro f cdv A outer s H E hr (a : D ) ds hp X
  have hNd : X.N.Nodup := sc_is_whole.nd
  have hN0 : X.N[0]? = some ("value" : Str) := rfl
  have hR : Room 0 X.A := hr
  have hu64 : X.A.units + 64 < cLine := by have := hR.un; omega
  have hu1 : X.A.units + 1 < cLine := by have := hR.un; omega
  have m_isinstance : X.mg "isinstance" = none := Z.b_isinstance
  have m_int : X.mg "int" = none := Z.b_int
  obtain ⟨t_MOST_NUMBER, g_MOST_NUMBER⟩ : ∃ t, X.mg "MOST_NUMBER" = some (.int G_MOST_NUMBER t) := Z.g_MOST_NUMBER
  have m_bool : X.mg "bool" = none := Z.b_bool
  have m_abs : X.mg "abs" = none := Z.b_abs
  obtain ⟨hds, hp⟩ := hp
  subst hds
  show WSs X [] (_ :: _) [ some a] _
  obtain ⟨nn, pl⟩ := hp
  cases a with
  | op v => exact pl.elim
  | obj C fs ds => exact pl.elim
  | exc C => exact pl.elim
  | exd C fs => exact pl.elim
  | ow o => exact pl.elim
  | fw o => exact pl.elim
  | fo C fs ds => exact pl.elim
  | lst ds => exact pl.elim
  | dic ks ds => exact pl.elim
  | pt ds => exact pl.elim
  | int i =>
    walk_at "go"
    refine ⟨[], rfl, congrArg D.bl ?_⟩
    unfold G_MOST_NUMBER
    by_cases q : -1000000000000000000 < i ∧ i < 1000000000000000000
    · rw [show isW (.int i) = true from decide_eq_true q]
      refine decide_eq_true ?_
      split <;> omega
    · rw [show isW (.int i) = false from decide_eq_false q]
      refine decide_eq_false ?_
      split <;> omega
  | non =>
    walk_at "go"
    exact ⟨[], rfl, rfl⟩
  | bl b =>
    walk_at "go"
    exact ⟨[], rfl, rfl⟩
  | str x =>
    walk_at "go"
    exact ⟨[], rfl, rfl⟩
  | tup ds =>
    have im : Imm (.tup ds) := pl.imm
    walk_at "go"
    exact ⟨[], rfl, rfl⟩
  | fz ds =>
    walk_at "go"
    exact ⟨[], rfl, rfl⟩
  | fd ks ds =>
    walk_at "go"
    exact ⟨[], rfl, rfl⟩
theorem cala_is_number (Z : Fz K mg) : Cal P w K mg base 2 "is_number" (toSp K 0 cta_is_number) := by
  refine cal_of Z.d_is_number sc_is_number (fun a ds h => by rw [h.1]; rfl) (by decide) ?_
  intro f cdv A outer s H E hr (a : D × Int ) ds hp X
  have hNd : X.N.Nodup := sc_is_number.nd
  have hN0 : X.N[0]? = some ("value" : Str) := rfl
  have hN1 : X.N[1]? = some ("low" : Str) := rfl
  have hR : Room 1 X.A := hr
  have hu64 : X.A.units + 64 < cLine := by have := hR.un; omega
  have hu1 : X.A.units + 1 < cLine := by have := hR.un; omega
  have c_is_whole : Cal X.prog X.w X.K X.mg X.base 1 "is_whole" (toSp X.K 0 cta_is_whole) := cala_is_whole Z
  obtain ⟨hds, hp⟩ := hp
  subst hds
  show WSs X [] (_ :: _) [ some a.1, some (D.int a.2)] _
  obtain ⟨d, l⟩ := a
  obtain ⟨nn, pl⟩ := hp
  dsimp only at pl ⊢
  have im : Imm d := pl.imm
  walk_at "go"
  refine ⟨d, ⟨rfl, nn, pl⟩, fun r hr => ?_⟩
  have hr : r = .bl (isW d) := hr
  subst hr
  cases d with
  | int i =>
    cases q : isW (.int i) with
    | true =>
      walk_at "go"
      exact ⟨[], rfl, congrArg D.bl (by show _ = (isW (.int i) && decide (l ≤ i)); rw [q]; rfl)⟩
    | false =>
      walk_at "go"
      exact ⟨[], rfl, congrArg D.bl (by show _ = (isW (.int i) && decide (l ≤ i)); rw [q]; rfl)⟩
  | _ =>
    walk_at "go"
    exact ⟨[], rfl, rfl⟩
end
end
section
local macro_rules | `(tactic| walk_at "kit") => `(tactic| first | with_reducible exact kit_ii | with_reducible exact kit_ib | with_reducible exact kit_it | with_reducible exact kit_tt | with_reducible exact kit_ti | with_reducible exact kit_bb | with_reducible exact kit_bi | with_reducible exact kit_ll | with_reducible exact kit_dd | with_reducible exact kit_ss | with_reducible exact kit_ni | with_reducible exact kit_nt | with_reducible exact kit_lt)
local macro_rules | `(tactic| walk_at "ob") => `(tactic| (refine ⟨_, _, ?dd, rfl, rfl, ?hh, ?ii, ?_⟩; (case hh => first | with_reducible exact at4_0 | with_reducible exact at4_1 | with_reducible exact at4_2 | with_reducible exact at4_3); (case ii => first | trivial | assumption)))
/-! ### changes of any value -/
abbrev cta_is_pointer : Ct := ctv_is_pointer
abbrev cta_is_value : Ct := ctv_is_value
abbrev cta_is_record : Ct := ctv_is_record
theorem isN_int {d : D} {l : Int} (h : isN d l = true) : ∃ i, d = .int i := by
  cases d <;> first | exact ⟨_, rfl⟩ | exact absurd h (by simp [isN])
theorem ptr_of {d : D} (h : isPtr d = true) : ∃ i : Int, d = .tup [.str toS, .int i] ∧ 0 ≤ i := by
  unfold isPtr two at h
  split at h
  · rename_i a b
    obtain ⟨h1, h2⟩ := Bool.and_eq_true_iff.mp h
    cases a with
    | str x =>
      have e : x = toS := of_decide_eq_true h1
      subst e
      cases b with
      | int i =>
        refine ⟨i, rfl, ?_⟩
        have h2 : (isW (.int i) && decide (0 ≤ i)) = true := h2
        exact of_decide_eq_true (Bool.and_eq_true_iff.mp h2).2
      | _ => exact absurd h2 (by simp [isN])
    | _ => exact absurd h1 (by simp [isTo])
  · cases h
section
variable {P : Program} {w : World} {K : PySem.W.Frag} {mg : Str → Option Value} {base : Heap}
theorem cala_is_pointer (Z : Fz K mg) : Cal P w K mg base 3 "is_pointer" (toSp K 0 cta_is_pointer) := by
  refine cal_of Z.d_is_pointer sc_is_pointer (fun a ds h => by rw [h.1]; rfl) (by decide) ?_
  intro f cdv A outer s H E hr (a : D ) ds hp X
  have hNd : X.N.Nodup := sc_is_pointer.nd
  have hN0 : X.N[0]? = some ("value" : Str) := rfl
  have hR : Room 2 X.A := hr
  have hu64 : X.A.units + 64 < cLine := by have := hR.un; omega
  have hu1 : X.A.units + 1 < cLine := by have := hR.un; omega
  have m_isinstance : X.mg "isinstance" = none := Z.b_isinstance
  have m_tuple : X.mg "tuple" = none := Z.b_tuple
  have m_str : X.mg "str" = none := Z.b_str
  have c_is_number : Cal X.prog X.w X.K X.mg X.base 2 "is_number" (toSp X.K 0 cta_is_number) := cala_is_number Z
  have m_len : X.mg "len" = none := Z.b_len
  obtain ⟨hds, hp⟩ := hp
  subst hds
  show WSs X [] (_ :: _) [ some a] _
  obtain ⟨nn, pl⟩ := hp
  have im : Imm a := pl.imm
  cases a with
  | tup ds =>
    have pls : Plns nn ds := pl.2
    rcases ds with _ | ⟨d1, _ | ⟨d2, _ | ⟨d3, ds⟩⟩⟩
    · walk_at "go"
      exact ⟨[], rfl, rfl⟩
    · walk_at "go"
      exact ⟨[], rfl, rfl⟩
    · have p1 : Pln nn d1 := pls.1
      have p2 : Pln nn d2 := pls.2.1
      have i1 : Imm d1 := p1.imm
      have i2 : Imm d2 := p2.imm
      cases d1 with
      | str x =>
        walk_at "go"
        refine ⟨_, _, _, rfl, rfl, cmp_eqS, _, rfl, fun hx => ?_, fun hx => ?_⟩
        · have hx := of_decide_eq_true hx
          subst hx
          walk_at "go"
          refine ⟨(d2, 0), ⟨rfl, nn, p2⟩, fun r hr => ?_⟩
          have hr : r = .bl (isN d2 0) := hr
          subst hr
          walk_at "go"
          refine ⟨[], rfl, congrArg D.bl ?_⟩
          show isN d2 0 = (isTo (.str toS) && isN d2 0)
          rw [show isTo (.str toS) = true from decide_eq_true (rfl : toS = toS)]
          rfl
        · walk_at "go"
          refine ⟨[], rfl, congrArg D.bl ?_⟩
          show false = (isTo (.str x) && isN d2 0)
          rw [show isTo (.str x) = false from hx]
          rfl
      | op v => exact p1.elim
      | obj C fs ds => exact p1.elim
      | exc C => exact p1.elim
      | exd C fs => exact p1.elim
      | ow o => exact p1.elim
      | fw o => exact p1.elim
      | fo C fs ds => exact p1.elim
      | lst ds => exact p1.elim
      | dic ks ds => exact p1.elim
      | pt ds => exact p1.elim
      | _ =>
        walk_at "go"
        exact ⟨[], rfl, rfl⟩
    · walk_at "go"
      exact ⟨[], rfl, rfl⟩
  | op v => exact pl.elim
  | obj C fs ds => exact pl.elim
  | exc C => exact pl.elim
  | exd C fs => exact pl.elim
  | ow o => exact pl.elim
  | fw o => exact pl.elim
  | fo C fs ds => exact pl.elim
  | lst ds => exact pl.elim
  | dic ks ds => exact pl.elim
  | pt ds => exact pl.elim
  | _ =>
    walk_at "go"
    exact ⟨[], rfl, rfl⟩
theorem cala_is_value (Z : Fz K mg) : Cal P w K mg base 4 "is_value" (toSp K 0 cta_is_value) := by
  refine cal_of Z.d_is_value sc_is_value (fun a ds h => by rw [h.1]; rfl) (by decide) ?_
  intro f cdv A outer s H E hr (a : D × Nat ) ds hp X
  have hNd : X.N.Nodup := sc_is_value.nd
  have hN0 : X.N[0]? = some ("value" : Str) := rfl
  have hN1 : X.N[1]? = some ("many" : Str) := rfl
  have hR : Room 3 X.A := hr
  have hu64 : X.A.units + 64 < cLine := by have := hR.un; omega
  have hu1 : X.A.units + 1 < cLine := by have := hR.un; omega
  have c_is_whole : Cal X.prog X.w X.K X.mg X.base 1 "is_whole" (toSp X.K 0 cta_is_whole) := cala_is_whole Z
  have c_is_pointer : Cal X.prog X.w X.K X.mg X.base 3 "is_pointer" (toSp X.K 0 cta_is_pointer) := cala_is_pointer Z
  obtain ⟨hds, hp⟩ := hp
  subst hds
  show WSs X [] (_ :: _) [ some a.1, some (D.int a.2)] _
  obtain ⟨d, m⟩ := a
  obtain ⟨nn, pl⟩ := hp
  dsimp only at pl ⊢
  have im : Imm d := pl.imm
  walk_at "go"
  refine ⟨fun h => ?_, fun h => ?_⟩
  · walk_at "go"
    exact ⟨[], rfl, congrArg D.bl (by unfold isVal; rw [h]; rfl)⟩
  walk_at "go"
  refine ⟨d, ⟨rfl, nn, pl⟩, fun r hr => ?_⟩
  have hr : r = .bl (isW d) := hr
  subst hr
  walk_at "go"
  refine ⟨fun h2 => ?_, fun h2 => ?_⟩
  · walk_at "go"
    exact ⟨[], rfl, congrArg D.bl (by unfold isVal; rw [h, h2]; rfl)⟩
  walk_at "go"
  refine ⟨d, ⟨rfl, nn, pl⟩, fun r hr => ?_⟩
  have hr : r = .bl (isPtr d) := hr
  subst hr
  cases q : isPtr d with
  | false =>
    walk_at "go"
    exact ⟨[], rfl, congrArg D.bl (by unfold isVal; rw [h, h2, q]; rfl)⟩
  | true =>
    obtain ⟨i, rfl, _⟩ := ptr_of q
    walk_at "go"
    refine ⟨[], rfl, congrArg D.bl ?_⟩
    show _ = (isNon (D.tup [.str toS, .int i]) || isW (D.tup [.str toS, .int i]) || (isPtr (D.tup [.str toS, .int i]) && decide (i < (m : Int))))
    rw [h, h2, q]
    rfl
theorem cala_is_record (Z : Fz K mg) : Cal P w K mg base 5 "is_record" (toSp K 0 cta_is_record) := by
  refine cal_of Z.d_is_record sc_is_record (fun a ds h => by rw [h.1]; rfl) (by decide) ?_
  intro f cdv A outer s H E hr (a : D × Nat × Nat ) ds hp X
  have hNd : X.N.Nodup := sc_is_record.nd
  have hN0 : X.N[0]? = some ("value" : Str) := rfl
  have hN1 : X.N[1]? = some ("wide" : Str) := rfl
  have hN2 : X.N[2]? = some ("many" : Str) := rfl
  have hN3 : X.N[3]? = some ("item" : Str) := rfl
  have hR : Room 4 X.A := hr
  have hu64 : X.A.units + 64 < cLine := by have := hR.un; omega
  have hu1 : X.A.units + 1 < cLine := by have := hR.un; omega
  have m_isinstance : X.mg "isinstance" = none := Z.b_isinstance
  have m_tuple : X.mg "tuple" = none := Z.b_tuple
  have m_all : X.mg "all" = none := Z.b_all
  have m_len : X.mg "len" = none := Z.b_len
  have c_is_value : Cal X.prog X.w X.K X.mg X.base 4 "is_value" (toSp X.K 0 cta_is_value) := cala_is_value Z
  obtain ⟨hds, hp⟩ := hp
  subst hds
  show WSs X [] (_ :: _) [ some a.1, some (D.int a.2.1), some (D.int a.2.2), none] _
  obtain ⟨d, w, m⟩ := a
  obtain ⟨nn, hnn, pl⟩ := hp
  dsimp only at pl ⊢
  have im : Imm d := pl.imm
  cases d with
  | tup ds =>
    have hl : ds.length ≤ nn := pl.1
    have pls : Plns nn ds := pl.2
    have ims : Imms ds := Plns.imms pls
    walk_at "go"
    refine ⟨fun q => ?_, fun q => ?_⟩
    · have q := of_decide_eq_true q
      walk_at "go"
      refine' wo_lcX (own := [("item", 3)]) rfl hNd ?ok ?hg ?_ ?hs
      case ok => exact (show BlkOk ["value", "wide", "many", "item"] (defScope s_is_record) _ [("item", 3)] from ⟨rfl, by decide +kernel, by decide +kernel, by decide +kernel, by decide +kernel⟩)
      case hs => exact fun _ => rfl
      case hg => exact blk_name hNd hN3 rfl
      refine wi_tup ?_
      walk_at "go"
      refine ⟨D, ds, fun d => d, fun d => some (.bl (isVal d m)), rfl, by omega, fun j h => by dsimp only; rw [List.getD_eq_getElem?_getD, List.getElem?_eq_getElem h]; rfl, (fun p h => nomatch h), ?_, ?_⟩
      · intro d hd
        have pd : Pln nn d := plns_iff.mp pls d hd
        have id : Imm d := pd.imm
        refine ⟨_, tgb_name (by decide) (Nat.le_of_ble_eq_true rfl), fun s H C cl fp => ?_⟩
        try dsimp only [List.set]
        refine wif_nil ⟨fun _ s H C cl fp => ?_, fun h => Bool.noConfusion h⟩
        walk_at "go"
        refine ⟨(d, m), ⟨rfl, nn, pd⟩, fun r hr => ?_⟩
        have hr : r = .bl (isVal d m) := hr
        subst hr
        walk_at "go"
        exact ⟨rfl, rfl⟩
      · rw [fm_some]
        refine ⟨ds.map fun d => isVal d m, by rw [List.map_map]; rfl, ?_⟩
        walk_at "go"
        refine ⟨[], rfl, congrArg D.bl ?_⟩
        show _ = (decide (ds.length = w) && ds.all (fun e => isVal e m))
        rw [decide_eq_true (by omega : ds.length = w), List.all_map]
        rfl
    · have q := of_decide_eq_false q
      walk_at "go"
      refine ⟨[], rfl, congrArg D.bl ?_⟩
      show false = (decide (ds.length = w) && ds.all (fun e => isVal e m))
      rw [decide_eq_false (by omega : ¬ ds.length = w)]
      rfl
  | op v => exact pl.elim
  | obj C fs ds => exact pl.elim
  | exc C => exact pl.elim
  | exd C fs => exact pl.elim
  | ow o => exact pl.elim
  | fw o => exact pl.elim
  | fo C fs ds => exact pl.elim
  | lst ds => exact pl.elim
  | dic ks ds => exact pl.elim
  | pt ds => exact pl.elim
  | _ =>
    walk_at "go"
    exact ⟨[], rfl, rfl⟩
end
end
section
local macro_rules | `(tactic| walk_at "kit") => `(tactic| first | with_reducible exact kit_ii | with_reducible exact kit_ib | with_reducible exact kit_it | with_reducible exact kit_tt | with_reducible exact kit_ti | with_reducible exact kit_bb | with_reducible exact kit_bi | with_reducible exact kit_ll | with_reducible exact kit_dd | with_reducible exact kit_ss | with_reducible exact kit_ni | with_reducible exact kit_nt)
local macro_rules | `(tactic| walk_at "gCalN") => `(tactic| ((with_reducible refine wo_isiT ?h1 ?h2 ?_ ?h4 ?h5); (case h1 => rfl); (case h2 => with_reducible assumption); (case h4 => rfl); (case h5 => rfl)))
local macro_rules | `(tactic| walk_at "gBin") => `(tactic| with_reducible refine wo_mulE ?_)
local macro_rules | `(tactic| walk_at "gWO") => `(tactic| with_reducible refine wo_dic2 ?_)
local macro_rules | `(tactic| walk_at "ob") => `(tactic| (refine ⟨_, _, ?dd, rfl, rfl, ?hh, ?ii, ?_⟩; (case hh => first | with_reducible exact at4_0 | with_reducible exact at4_1 | with_reducible exact at4_2 | with_reducible exact at4_3); (case ii => first | trivial | assumption)))
local macro_rules | `(tactic| walk_at "gCalA") => `(tactic| ((with_reducible refine' wo_removeI ?h2 ?_ ?h5 ?h6); (case h5 => exact pe_bm PySem.F.plainAttrs_list PySem.F.slot_list_remove PySem.F.type_list_remove mt_remove (pe_slot (by with_reducible assumption)) pa_w); (case h2 => exact ⟨_, rfl⟩); (case h6 => rfl)))
local macro_rules | `(tactic| walk_at "rest") => `(tactic| first | with_reducible refine wk_cons ?_ | with_reducible refine wk_nil ?_)
def ct_law_is_truth : Ct := ⟨Bool × Bool, fun a ds => ds = [.bl a.1, .bl a.2] ∧ True, fun a d _ => d = .bl (decide (a.1 = a.2))⟩
def ct_look_alike : Ct := ⟨Hea × Hea × Nat, fun a ds => ds = [heaD a.1, heaD a.2.1, .int a.2.2] ∧ WfH a.2.2 a.1 ∧ WfH a.2.2 a.2.1, fun a d _ => d = .bl (decide (seeH a.1 = seeH a.2.1))⟩
section
variable {P : Program} {w : World} {K : PySem.W.Frag} {mg : Str → Option Value} {base : Heap}
theorem cal_law_is_truth (Z : Fz K mg) : Cal P w K mg base 1 "_law_is_truth" (toSp K 0 ct_law_is_truth) := by
  refine cal_of Z.d_law_is_truth sc_law_is_truth (fun a ds h => by rw [h.1]; rfl) (by decide) ?_
  intro f cdv A outer s H E hr (a : Bool × Bool ) ds hp X
  have hNd : X.N.Nodup := sc_law_is_truth.nd
  have hN0 : X.N[0]? = some ("found" : Str) := rfl
  have hN1 : X.N[1]? = some ("due" : Str) := rfl
  have hR : Room 0 X.A := hr
  have hu64 : X.A.units + 64 < cLine := by have := hR.un; omega
  have hu1 : X.A.units + 1 < cLine := by have := hR.un; omega
  obtain ⟨hds, hp⟩ := hp
  subst hds
  show WSs X [] (_ :: _) [ some (D.bl a.1), some (D.bl a.2)] _
  obtain ⟨x, y⟩ := a
  dsimp only
  cases y
  · walk_at "go"
    refine ⟨_, _, _, rfl, rfl, cmp_isB, ?_⟩
    walk_at "go"
    exact ⟨[], rfl, rfl⟩
  · walk_at "go"
    refine ⟨_, _, _, rfl, rfl, cmp_isB, ?_⟩
    walk_at "go"
    exact ⟨[], rfl, rfl⟩
theorem cal_look_alike (Z : Fz K mg) : Cal P w K mg base 9 "look_alike" (toSp K 0 ct_look_alike) := by
  refine cal_of Z.d_look_alike sc_look_alike (fun a ds h => by rw [h.1]; rfl) (by decide) ?_
  intro f cdv A outer s H E hr (a : Hea × Hea × Nat ) ds hp X
  have hNd : X.N.Nodup := sc_look_alike.nd
  have hN0 : X.N[0]? = some ("one" : Str) := rfl
  have hN1 : X.N[1]? = some ("other" : Str) := rfl
  have hN2 : X.N[2]? = some ("wide" : Str) := rfl
  have hR : Room 8 X.A := hr
  have hu64 : X.A.units + 64 < cLine := by have := hR.un; omega
  have hu1 : X.A.units + 1 < cLine := by have := hR.un; omega
  have c_need_heap : Cal X.prog X.w X.K X.mg X.base 7 "need_heap" (toSp X.K 0 ct_need_heap) := cal_need_heap Z
  have c_seen : Cal X.prog X.w X.K X.mg X.base 8 "seen" (toSp X.K 0 ct_seen) := cal_seen Z
  obtain ⟨hds, hp⟩ := hp
  subst hds
  show WSs X [] (_ :: _) [ some (heaD a.1), some (heaD a.2.1), some (D.int a.2.2)] _
  obtain ⟨g, h, w⟩ := a
  obtain ⟨wg, wh⟩ := hp
  dsimp only at wg wh ⊢
  have img : Imm (heaD g) := imm_hea
  have imh : Imm (heaD h) := imm_hea
  walk_at "go"
  refine ⟨(g, w), ⟨rfl, wg⟩, fun d hd => ?_⟩
  have hd : d = .non := hd
  subst hd
  walk_at "go"
  refine ⟨(h, w), ⟨rfl, wh⟩, fun d hd => ?_⟩
  have hd : d = .non := hd
  subst hd
  walk_at "go"
  refine ⟨(g, w), ⟨rfl, wg⟩, fun d hd => ?_⟩
  have hd : d = heaD (seeH g) := hd
  subst hd
  walk_at "go"
  refine ⟨(h, w), ⟨rfl, wh⟩, fun d hd => ?_⟩
  have hd : d = heaD (seeH h) := hd
  subst hd
  walk_at "go"
  refine ⟨_, _, _, rfl, rfl, cmp_eqHea hu64, ?_⟩
  walk_at "go"
  exact ⟨[], rfl, rfl⟩
end
end
section
local macro_rules | `(tactic| walk_at "kit") => `(tactic| first | with_reducible exact kit_ii | with_reducible exact kit_ib | with_reducible exact kit_it | with_reducible exact kit_tt | with_reducible exact kit_ti | with_reducible exact kit_bb | with_reducible exact kit_bi | with_reducible exact kit_ll | with_reducible exact kit_dd | with_reducible exact kit_ss | with_reducible exact kit_ni | with_reducible exact kit_nt | with_reducible exact kit_lt)
local macro_rules | `(tactic| walk_at "ob") => `(tactic| (refine ⟨_, _, ?dd, rfl, rfl, ?hh, ?ii, ?_⟩; (case hh => first | with_reducible exact at4_0 | with_reducible exact at4_1 | with_reducible exact at4_2 | with_reducible exact at4_3); (case ii => first | trivial | assumption)))
abbrev ctb_is_wide : Ct := ctv_is_wide
abbrev ctx_need_wide_any : CtX := ctx_need_wide
section
variable {P : Program} {w : World} {K : PySem.W.Frag} {mg : Str → Option Value} {base : Heap}
theorem calb_is_wide (Z : Fz K mg) : Cal P w K mg base 3 "is_wide" (toSp K 0 ctb_is_wide) := by
  refine cal_of Z.d_is_wide sc_is_wide (fun a ds h => by rw [h.1]; rfl) (by decide) ?_
  intro f cdv A outer s H E hr (a : D ) ds hp X
  have hNd : X.N.Nodup := sc_is_wide.nd
  have hN0 : X.N[0]? = some ("value" : Str) := rfl
  have hR : Room 2 X.A := hr
  have hu64 : X.A.units + 64 < cLine := by have := hR.un; omega
  have hu1 : X.A.units + 1 < cLine := by have := hR.un; omega
  have c_is_number : Cal X.prog X.w X.K X.mg X.base 2 "is_number" (toSp X.K 0 cta_is_number) := cala_is_number Z
  obtain ⟨t_MOST_WIDE, g_MOST_WIDE⟩ : ∃ t, X.mg "MOST_WIDE" = some (.int G_MOST_WIDE t) := Z.g_MOST_WIDE
  obtain ⟨hds, hp⟩ := hp
  subst hds
  show WSs X [] (_ :: _) [ some a] _
  obtain ⟨nn, pl⟩ := hp
  have im : Imm a := pl.imm
  walk_at "go"
  refine ⟨(a, 1), ⟨rfl, nn, pl⟩, fun r hr => ?_⟩
  have hr : r = .bl (isN a 1) := hr
  subst hr
  cases q : isN a 1 with
  | false =>
    walk_at "go"
    exact ⟨[], rfl, congrArg D.bl (isWd_no q).symm⟩
  | true =>
    obtain ⟨i, rfl⟩ := isN_int q
    walk_at "go"
    refine ⟨[], rfl, congrArg D.bl ?_⟩
    show _ = (isN (.int i) 1 && decide (i ≤ 6))
    rw [q]
    rfl
theorem calx_need_wide_any (Z : Fz K mg) : CalX P w K mg base 4 "need_wide" (toSpX K mg ctx_need_wide_any) := by
  refine calx_of Z.d_need_wide sc_need_wide (fun a ds h => by rw [h.1]; rfl) ?_
  intro f cdv A outer s H E hr (a : D ) ds hp X
  have hNd : X.N.Nodup := sc_need_wide.nd
  have hN0 : X.N[0]? = some ("wide" : Str) := rfl
  have hR : Room 3 X.A := hr
  have hu64 : X.A.units + 64 < cLine := by have := hR.un; omega
  have hu1 : X.A.units + 1 < cLine := by have := hR.un; omega
  have c_is_wide : Cal X.prog X.w X.K X.mg X.base 3 "is_wide" (toSp X.K 0 ctb_is_wide) := calb_is_wide Z
  obtain ⟨hds, hp⟩ := hp
  subst hds
  show WXs X (_ :: _) [ some a] _
  obtain ⟨⟨nn, pl⟩, hb⟩ := hp
  have im : Imm a := pl.imm
  refine wx_st (wx_if ?_)
  walk_at "go"
  refine ⟨a, ⟨rfl, nn, pl⟩, fun r hr => ?_⟩
  have hr : r = .bl (isWd a) := hr
  rw [hb] at hr
  subst hr
  walk_at "go"
  exact wx_st (wx_raise Z.x_BadWide rfl rfl)
end
end
section
local macro_rules | `(tactic| walk_at "kit") => `(tactic| first | with_reducible exact kit_ii | with_reducible exact kit_ib | with_reducible exact kit_it | with_reducible exact kit_tt | with_reducible exact kit_ti | with_reducible exact kit_bb | with_reducible exact kit_bi | with_reducible exact kit_ll | with_reducible exact kit_dd | with_reducible exact kit_ss | with_reducible exact kit_ni | with_reducible exact kit_nt | with_reducible exact kit_lt)
local macro_rules | `(tactic| walk_at "ob") => `(tactic| (refine ⟨_, _, ?dd, rfl, rfl, ?hh, ?ii, ?_⟩; (case hh => first | with_reducible exact at4_0 | with_reducible exact at4_1 | with_reducible exact at4_2 | with_reducible exact at4_3); (case ii => first | trivial | assumption)))
/-- a heap of records of w fields, by any value -/
def isHea (d : D) (w : Nat) : Bool := match d with
  | .tup ds => !ds.isEmpty && ds.all (fun r => isRec r w (ds.length : Nat))
  | _ => false
def cta_is_heap : Ct := ⟨D × Nat, fun a ds => ds = [a.1, .int a.2] ∧ (∃ n, n ≤ 100000 ∧ Pln n a.1) ∧ (1 ≤ a.2 ∧ a.2 ≤ 6), fun a r _ => r = .bl (isHea a.1 a.2)⟩
def ctx_is_heap_wide : CtX := ⟨D × D, fun a ds => ds = [a.1, a.2] ∧ Imm a.1 ∧ (∃ n, Pln n a.2) ∧ isWd a.2 = false, "BadWide"⟩
def ctx_need_heap_wide : CtX := ⟨D × D, fun a ds => ds = [a.1, a.2] ∧ Imm a.1 ∧ (∃ n, Pln n a.2) ∧ isWd a.2 = false, "BadWide"⟩
def ctx_pointed_wide : CtX := ⟨D × D, fun a ds => ds = [a.1, a.2] ∧ Imm a.1 ∧ (∃ n, Pln n a.2) ∧ isWd a.2 = false, "BadWide"⟩
def ctx_reached_wide : CtX := ⟨D × D, fun a ds => ds = [a.1, a.2] ∧ Imm a.1 ∧ (∃ n, Pln n a.2) ∧ isWd a.2 = false, "BadWide"⟩
def ctx_seen_wide : CtX := ⟨D × D, fun a ds => ds = [a.1, a.2] ∧ Imm a.1 ∧ (∃ n, Pln n a.2) ∧ isWd a.2 = false, "BadWide"⟩
def ctx_look_alike_wide : CtX := ⟨D × D × D, fun a ds => ds = [a.1, a.2.1, a.2.2] ∧ Imm a.1 ∧ Imm a.2.1 ∧ (∃ n, Pln n a.2.2) ∧ isWd a.2.2 = false, "BadWide"⟩
def ctx_need_heap_heap : CtX := ⟨D × Nat, fun a ds => ds = [a.1, .int a.2] ∧ (∃ n, n ≤ 100000 ∧ Pln n a.1) ∧ (1 ≤ a.2 ∧ a.2 ≤ 6) ∧ isHea a.1 a.2 = false, "BadHeap"⟩
def ctx_pointed_heap : CtX := ⟨D × Nat, fun a ds => ds = [a.1, .int a.2] ∧ (∃ n, n ≤ 100000 ∧ Pln n a.1) ∧ (1 ≤ a.2 ∧ a.2 ≤ 6) ∧ isHea a.1 a.2 = false, "BadHeap"⟩
def ctx_reached_heap : CtX := ⟨D × Nat, fun a ds => ds = [a.1, .int a.2] ∧ (∃ n, n ≤ 100000 ∧ Pln n a.1) ∧ (1 ≤ a.2 ∧ a.2 ≤ 6) ∧ isHea a.1 a.2 = false, "BadHeap"⟩
def ctx_seen_heap : CtX := ⟨D × Nat, fun a ds => ds = [a.1, .int a.2] ∧ (∃ n, n ≤ 100000 ∧ Pln n a.1) ∧ (1 ≤ a.2 ∧ a.2 ≤ 6) ∧ isHea a.1 a.2 = false, "BadHeap"⟩
def ctx_look_alike_heap : CtX := ⟨Hea × D × Nat, fun a ds => ds = [heaD a.1, a.2.1, .int a.2.2] ∧ WfH a.2.2 a.1 ∧ (∃ n, n ≤ 100000 ∧ Pln n a.2.1) ∧ isHea a.2.1 a.2.2 = false, "BadHeap"⟩
theorem wx_ifN {X : Cx} {e : Expr} {E : EnvT} {cls : Str} {sa sb : List Stmt} {p2 pos : Pos} (h : WXe X e E cls) (hb : ∀ whole, isTrue e X.env whole = (do let v ← whole; standAt e.pos; holding [v] (truthy v)) := by intro _; rfl) : WX1 X (.If (.UnaryOp .Not e p2) sa sb pos) E cls := by
  intro Z H σ F Ec D he tk hw
  exact wpS_by (ps_if (pt_not (pt_val pe_w hb)) pss_w pss_w) (h Z H σ F Ec _ he tk hw)
section
variable {P : Program} {w : World} {K : PySem.W.Frag} {mg : Str → Option Value} {base : Heap}
theorem cala_is_heap (Z : Fz K mg) : Cal P w K mg base 6 "is_heap" (toSp K 0 cta_is_heap) := by
  refine cal_of Z.d_is_heap sc_is_heap (fun a ds h => by rw [h.1]; rfl) (by decide) ?_
  intro f cdv A outer s H E hr (a : D × Nat ) ds hp X
  have hNd : X.N.Nodup := sc_is_heap.nd
  have hN0 : X.N[0]? = some ("value" : Str) := rfl
  have hN1 : X.N[1]? = some ("wide" : Str) := rfl
  have hN2 : X.N[2]? = some ("record" : Str) := rfl
  have hR : Room 5 X.A := hr
  have hu64 : X.A.units + 64 < cLine := by have := hR.un; omega
  have hu1 : X.A.units + 1 < cLine := by have := hR.un; omega
  have c_need_wide : Cal X.prog X.w X.K X.mg X.base 4 "need_wide" (toSp X.K 0 ct_need_wide) := cal_need_wide Z
  have m_all : X.mg "all" = none := Z.b_all
  have m_isinstance : X.mg "isinstance" = none := Z.b_isinstance
  have m_tuple : X.mg "tuple" = none := Z.b_tuple
  have c_is_record : Cal X.prog X.w X.K X.mg X.base 5 "is_record" (toSp X.K 0 cta_is_record) := cala_is_record Z
  have m_len : X.mg "len" = none := Z.b_len
  obtain ⟨hds, hp⟩ := hp
  subst hds
  show WSs X [] (_ :: _) [ some a.1, some (D.int a.2), none] _
  obtain ⟨d, w⟩ := a
  obtain ⟨⟨nn, hnn, pl⟩, w1, w6⟩ := hp
  dsimp only at pl w1 w6 ⊢
  have im : Imm d := pl.imm
  walk_at "go"
  refine ⟨(w : Int), ⟨rfl, by omega, by omega⟩, fun r hr => ?_⟩
  have hr : r = .non := hr
  subst hr
  cases d with
  | tup ds =>
    have hl : ds.length ≤ nn := pl.1
    have pls : Plns nn ds := pl.2
    have ims : Imms ds := Plns.imms pls
    walk_at "go"
    refine ⟨_, _, _, rfl, rfl, cmp_eqTE hu64, ?_⟩
    cases q : ds.isEmpty with
    | true =>
      walk_at "go"
      refine ⟨[], rfl, congrArg D.bl ?_⟩
      show false = (!ds.isEmpty && _)
      rw [q]
      rfl
    | false =>
      walk_at "go"
      refine' wo_lcX (own := [("record", 2)]) rfl hNd ?ok ?hg ?_ ?hs
      case ok => exact (show BlkOk ["value", "wide", "record"] (defScope s_is_heap) _ [("record", 2)] from ⟨rfl, by decide +kernel, by decide +kernel, by decide +kernel, by decide +kernel⟩)
      case hs => exact fun _ => rfl
      case hg => exact blk_name hNd hN2 rfl
      refine wi_tup ?_
      walk_at "go"
      refine ⟨D, ds, id, fun d => some (.bl (isRec d w (ds.length : Nat))), rfl, by omega, fun j h => by show List.getD _ _ _ = _; rw [List.getD_eq_getElem?_getD, List.getElem?_eq_getElem h]; rfl, (fun p h => nomatch h), ?_, ?_⟩
      · intro r hr
        have pr := plns_iff.mp pls r hr
        have imr : Imm r := pr.imm
        dsimp only [id]
        refine ⟨_, tgb_name (by decide) (Nat.le_of_ble_eq_true rfl), fun s H C cl fp => ?_⟩
        try dsimp only [List.set]
        refine wif_nil ⟨fun _ s H C cl fp => ?_, fun h => Bool.noConfusion h⟩
        walk_at "go"
        refine ⟨(r, w, ds.length), ⟨rfl, nn, hnn, pr⟩, fun t ht => ?_⟩
        have ht : t = .bl (isRec r w (ds.length : Nat)) := ht
        subst ht
        walk_at "go"
        exact ⟨rfl, rfl⟩
      rw [fm_some]
      refine ⟨ds.map fun d => isRec d w (ds.length : Nat), by rw [List.map_map]; rfl, ?_⟩
      walk_at "go"
      refine ⟨[], rfl, congrArg D.bl ?_⟩
      show _ = (!ds.isEmpty && ds.all (fun r => isRec r w (ds.length : Nat)))
      rw [q, List.all_map]
      rfl
  | op v => exact pl.elim
  | obj C fs ds => exact pl.elim
  | exc C => exact pl.elim
  | exd C fs => exact pl.elim
  | ow o => exact pl.elim
  | fw o => exact pl.elim
  | fo C fs ds => exact pl.elim
  | lst ds => exact pl.elim
  | dic ks ds => exact pl.elim
  | pt ds => exact pl.elim
  | _ =>
    walk_at "go"
    exact ⟨[], rfl, rfl⟩
theorem calx_is_heap_wide (Z : Fz K mg) : CalX P w K mg base 6 "is_heap" (toSpX K mg ctx_is_heap_wide) := by
  refine calx_of Z.d_is_heap sc_is_heap (fun a ds h => by rw [h.1]; rfl) ?_
  intro f cdv A outer s H E hr (a : D × D ) ds hp X
  have hNd : X.N.Nodup := sc_is_heap.nd
  have hN0 : X.N[0]? = some ("value" : Str) := rfl
  have hN1 : X.N[1]? = some ("wide" : Str) := rfl
  have hN2 : X.N[2]? = some ("record" : Str) := rfl
  have hR : Room 5 X.A := hr
  have hu64 : X.A.units + 64 < cLine := by have := hR.un; omega
  have hu1 : X.A.units + 1 < cLine := by have := hR.un; omega
  have c_need_wide : Cal X.prog X.w X.K X.mg X.base 4 "need_wide" (toSp X.K 0 ct_need_wide) := cal_need_wide Z
  have m_all : X.mg "all" = none := Z.b_all
  have m_isinstance : X.mg "isinstance" = none := Z.b_isinstance
  have m_tuple : X.mg "tuple" = none := Z.b_tuple
  have c_is_record : Cal X.prog X.w X.K X.mg X.base 5 "is_record" (toSp X.K 0 cta_is_record) := cala_is_record Z
  have m_len : X.mg "len" = none := Z.b_len
  obtain ⟨hds, hp⟩ := hp
  subst hds
  show WXs X (_ :: _) [ some a.1, some a.2, none] _
  obtain ⟨d, wd⟩ := a
  obtain ⟨im, hp, hw⟩ := hp
  dsimp only at im hp hw ⊢
  have imw : Imm wd := let ⟨n, h⟩ := hp; h.imm
  refine wx_st (wx_expr ?_)
  refine wx_call (S := ctx_need_wide_any) (calx_need_wide_any Z) hR (by decide) (by exact rfl) ?_
  walk_at "go"
  first
    | exact hw
    | exact ⟨hp, hw⟩
theorem calx_need_heap_wide (Z : Fz K mg) : CalX P w K mg base 7 "need_heap" (toSpX K mg ctx_need_heap_wide) := by
  refine calx_of Z.d_need_heap sc_need_heap (fun a ds h => by rw [h.1]; rfl) ?_
  intro f cdv A outer s H E hr (a : D × D ) ds hp X
  have hNd : X.N.Nodup := sc_need_heap.nd
  have hN0 : X.N[0]? = some ("heap" : Str) := rfl
  have hN1 : X.N[1]? = some ("wide" : Str) := rfl
  have hR : Room 6 X.A := hr
  have hu64 : X.A.units + 64 < cLine := by have := hR.un; omega
  have hu1 : X.A.units + 1 < cLine := by have := hR.un; omega
  have c_is_heap : Cal X.prog X.w X.K X.mg X.base 6 "is_heap" (toSp X.K 0 cta_is_heap) := cala_is_heap Z
  obtain ⟨hds, hp⟩ := hp
  subst hds
  show WXs X (_ :: _) [ some a.1, some a.2] _
  obtain ⟨d, wd⟩ := a
  obtain ⟨im, hp, hw⟩ := hp
  dsimp only at im hp hw ⊢
  have imw : Imm wd := let ⟨n, h⟩ := hp; h.imm
  refine wx_st (wx_ifN ?_)
  refine wx_call (S := ctx_is_heap_wide) (calx_is_heap_wide Z) hR (by decide) (by exact rfl) ?_
  walk_at "go"
  exact ⟨(d, wd), rfl, im, hp, hw⟩
theorem calx_need_heap_heap (Z : Fz K mg) : CalX P w K mg base 7 "need_heap" (toSpX K mg ctx_need_heap_heap) := by
  refine calx_of Z.d_need_heap sc_need_heap (fun a ds h => by rw [h.1]; rfl) ?_
  intro f cdv A outer s H E hr (a : D × Nat ) ds hp X
  have hNd : X.N.Nodup := sc_need_heap.nd
  have hN0 : X.N[0]? = some ("heap" : Str) := rfl
  have hN1 : X.N[1]? = some ("wide" : Str) := rfl
  have hR : Room 6 X.A := hr
  have hu64 : X.A.units + 64 < cLine := by have := hR.un; omega
  have hu1 : X.A.units + 1 < cLine := by have := hR.un; omega
  have c_is_heap : Cal X.prog X.w X.K X.mg X.base 6 "is_heap" (toSp X.K 0 cta_is_heap) := cala_is_heap Z
  obtain ⟨hds, hp⟩ := hp
  subst hds
  show WXs X (_ :: _) [ some a.1, some (D.int a.2)] _
  obtain ⟨d, w⟩ := a
  obtain ⟨pl, w16, hf⟩ := hp
  dsimp only at pl w16 hf ⊢
  have im : Imm d := let ⟨n, _, h⟩ := pl; h.imm
  refine wx_st (wx_if ?_)
  walk_at "go"
  refine ⟨(d, w), ⟨rfl, pl, w16⟩, fun r hr => ?_⟩
  have hr : r = .bl (isHea d w) := hr
  rw [hf] at hr
  subst hr
  walk_at "go"
  exact wx_st (wx_raise Z.x_BadHeap rfl rfl)
theorem calx_pointed_wide (Z : Fz K mg) : CalX P w K mg base 8 "pointed" (toSpX K mg ctx_pointed_wide) := by
  refine calx_of Z.d_pointed sc_pointed (fun a ds h => by rw [h.1]; rfl) ?_
  intro f cdv A outer s H E hr (a : D × D ) ds hp X
  have hNd : X.N.Nodup := sc_pointed.nd
  have hN0 : X.N[0]? = some ("heap" : Str) := rfl
  have hN1 : X.N[1]? = some ("wide" : Str) := rfl
  have hN2 : X.N[2]? = some ("found" : Str) := rfl
  have hN3 : X.N[3]? = some ("record" : Str) := rfl
  have hN4 : X.N[4]? = some ("value" : Str) := rfl
  have hR : Room 7 X.A := hr
  have hu64 : X.A.units + 64 < cLine := by have := hR.un; omega
  have hu1 : X.A.units + 1 < cLine := by have := hR.un; omega
  have c_need_heap : Cal X.prog X.w X.K X.mg X.base 7 "need_heap" (toSp X.K 0 ct_need_heap) := cal_need_heap Z
  have m_tuple : X.mg "tuple" = none := Z.b_tuple
  have m_len : X.mg "len" = none := Z.b_len
  have c_is_pointer : Cal X.prog X.w X.K X.mg X.base 3 "is_pointer" (toSp X.K 0 cta_is_pointer) := cala_is_pointer Z
  obtain ⟨hds, hp⟩ := hp
  subst hds
  show WXs X (_ :: _) [ some a.1, some a.2, none, none, none] _
  obtain ⟨d, wd⟩ := a
  obtain ⟨im, hp, hw⟩ := hp
  dsimp only at im hp hw ⊢
  have imw : Imm wd := let ⟨n, h⟩ := hp; h.imm
  refine wx_st (wx_expr ?_)
  refine wx_call (S := ctx_need_heap_wide) (calx_need_heap_wide Z) hR (by decide) (by exact rfl) ?_
  walk_at "go"
  exact ⟨(d, wd), rfl, im, hp, hw⟩
theorem calx_pointed_heap (Z : Fz K mg) : CalX P w K mg base 8 "pointed" (toSpX K mg ctx_pointed_heap) := by
  refine calx_of Z.d_pointed sc_pointed (fun a ds h => by rw [h.1]; rfl) ?_
  intro f cdv A outer s H E hr (a : D × Nat ) ds hp X
  have hNd : X.N.Nodup := sc_pointed.nd
  have hN0 : X.N[0]? = some ("heap" : Str) := rfl
  have hN1 : X.N[1]? = some ("wide" : Str) := rfl
  have hN2 : X.N[2]? = some ("found" : Str) := rfl
  have hN3 : X.N[3]? = some ("record" : Str) := rfl
  have hN4 : X.N[4]? = some ("value" : Str) := rfl
  have hR : Room 7 X.A := hr
  have hu64 : X.A.units + 64 < cLine := by have := hR.un; omega
  have hu1 : X.A.units + 1 < cLine := by have := hR.un; omega
  have c_need_heap : Cal X.prog X.w X.K X.mg X.base 7 "need_heap" (toSp X.K 0 ct_need_heap) := cal_need_heap Z
  have m_tuple : X.mg "tuple" = none := Z.b_tuple
  have m_len : X.mg "len" = none := Z.b_len
  have c_is_pointer : Cal X.prog X.w X.K X.mg X.base 3 "is_pointer" (toSp X.K 0 cta_is_pointer) := cala_is_pointer Z
  obtain ⟨hds, hp⟩ := hp
  subst hds
  show WXs X (_ :: _) [ some a.1, some (D.int a.2), none, none, none] _
  obtain ⟨d, w⟩ := a
  obtain ⟨pl, w16, hf⟩ := hp
  dsimp only at pl w16 hf ⊢
  have im : Imm d := let ⟨n, _, h⟩ := pl; h.imm
  refine wx_st (wx_expr ?_)
  refine wx_call (S := ctx_need_heap_heap) (calx_need_heap_heap Z) hR (by decide) (by exact rfl) ?_
  walk_at "go"
  exact ⟨(d, w), rfl, pl, w16, hf⟩
theorem calx_reached_wide (Z : Fz K mg) : CalX P w K mg base 8 "reached" (toSpX K mg ctx_reached_wide) := by
  refine calx_of Z.d_reached sc_reached (fun a ds h => by rw [h.1]; rfl) ?_
  intro f cdv A outer s H E hr (a : D × D ) ds hp X
  have hNd : X.N.Nodup := sc_reached.nd
  have hN0 : X.N[0]? = some ("heap" : Str) := rfl
  have hN1 : X.N[1]? = some ("wide" : Str) := rfl
  have hR : Room 7 X.A := hr
  have hu64 : X.A.units + 64 < cLine := by have := hR.un; omega
  have hu1 : X.A.units + 1 < cLine := by have := hR.un; omega
  have c_need_heap : Cal X.prog X.w X.K X.mg X.base 7 "need_heap" (toSp X.K 0 ct_need_heap) := cal_need_heap Z
  have m_tuple : X.mg "tuple" = none := Z.b_tuple
  have m_sorted : X.mg "sorted" = none := Z.b_sorted
  have c_met : Cal X.prog X.w X.K X.mg X.base 4 "met" (toSp X.K 0 ct_met) := cal_met Z
  obtain ⟨hds, hp⟩ := hp
  subst hds
  show WXs X (_ :: _) [ some a.1, some a.2] _
  obtain ⟨d, wd⟩ := a
  obtain ⟨im, hp, hw⟩ := hp
  dsimp only at im hp hw ⊢
  have imw : Imm wd := let ⟨n, h⟩ := hp; h.imm
  refine wx_st (wx_expr ?_)
  refine wx_call (S := ctx_need_heap_wide) (calx_need_heap_wide Z) hR (by decide) (by exact rfl) ?_
  walk_at "go"
  exact ⟨(d, wd), rfl, im, hp, hw⟩
theorem calx_reached_heap (Z : Fz K mg) : CalX P w K mg base 8 "reached" (toSpX K mg ctx_reached_heap) := by
  refine calx_of Z.d_reached sc_reached (fun a ds h => by rw [h.1]; rfl) ?_
  intro f cdv A outer s H E hr (a : D × Nat ) ds hp X
  have hNd : X.N.Nodup := sc_reached.nd
  have hN0 : X.N[0]? = some ("heap" : Str) := rfl
  have hN1 : X.N[1]? = some ("wide" : Str) := rfl
  have hR : Room 7 X.A := hr
  have hu64 : X.A.units + 64 < cLine := by have := hR.un; omega
  have hu1 : X.A.units + 1 < cLine := by have := hR.un; omega
  have c_need_heap : Cal X.prog X.w X.K X.mg X.base 7 "need_heap" (toSp X.K 0 ct_need_heap) := cal_need_heap Z
  have m_tuple : X.mg "tuple" = none := Z.b_tuple
  have m_sorted : X.mg "sorted" = none := Z.b_sorted
  have c_met : Cal X.prog X.w X.K X.mg X.base 4 "met" (toSp X.K 0 ct_met) := cal_met Z
  obtain ⟨hds, hp⟩ := hp
  subst hds
  show WXs X (_ :: _) [ some a.1, some (D.int a.2)] _
  obtain ⟨d, w⟩ := a
  obtain ⟨pl, w16, hf⟩ := hp
  dsimp only at pl w16 hf ⊢
  have im : Imm d := let ⟨n, _, h⟩ := pl; h.imm
  refine wx_st (wx_expr ?_)
  refine wx_call (S := ctx_need_heap_heap) (calx_need_heap_heap Z) hR (by decide) (by exact rfl) ?_
  walk_at "go"
  exact ⟨(d, w), rfl, pl, w16, hf⟩
theorem calx_seen_wide (Z : Fz K mg) : CalX P w K mg base 8 "seen" (toSpX K mg ctx_seen_wide) := by
  refine calx_of Z.d_seen sc_seen (fun a ds h => by rw [h.1]; rfl) ?_
  intro f cdv A outer s H E hr (a : D × D ) ds hp X
  have hNd : X.N.Nodup := sc_seen.nd
  have hN0 : X.N[0]? = some ("heap" : Str) := rfl
  have hN1 : X.N[1]? = some ("wide" : Str) := rfl
  have hN2 : X.N[2]? = some ("order" : Str) := rfl
  have hN3 : X.N[3]? = some ("place" : Str) := rfl
  have hN4 : X.N[4]? = some ("at" : Str) := rfl
  have hN5 : X.N[5]? = some ("record" : Str) := rfl
  have hN6 : X.N[6]? = some ("value" : Str) := rfl
  have hR : Room 7 X.A := hr
  have hu64 : X.A.units + 64 < cLine := by have := hR.un; omega
  have hu1 : X.A.units + 1 < cLine := by have := hR.un; omega
  have c_need_heap : Cal X.prog X.w X.K X.mg X.base 7 "need_heap" (toSp X.K 0 ct_need_heap) := cal_need_heap Z
  have c_met : Cal X.prog X.w X.K X.mg X.base 4 "met" (toSp X.K 0 ct_met) := cal_met Z
  have m_tuple : X.mg "tuple" = none := Z.b_tuple
  have m_enumerate : X.mg "enumerate" = none := Z.b_enumerate
  have c_is_pointer : Cal X.prog X.w X.K X.mg X.base 3 "is_pointer" (toSp X.K 0 cta_is_pointer) := cala_is_pointer Z
  obtain ⟨hds, hp⟩ := hp
  subst hds
  show WXs X (_ :: _) [ some a.1, some a.2, none, none, none, none, none] _
  obtain ⟨d, wd⟩ := a
  obtain ⟨im, hp, hw⟩ := hp
  dsimp only at im hp hw ⊢
  have imw : Imm wd := let ⟨n, h⟩ := hp; h.imm
  refine wx_st (wx_expr ?_)
  refine wx_call (S := ctx_need_heap_wide) (calx_need_heap_wide Z) hR (by decide) (by exact rfl) ?_
  walk_at "go"
  exact ⟨(d, wd), rfl, im, hp, hw⟩
theorem calx_seen_heap (Z : Fz K mg) : CalX P w K mg base 8 "seen" (toSpX K mg ctx_seen_heap) := by
  refine calx_of Z.d_seen sc_seen (fun a ds h => by rw [h.1]; rfl) ?_
  intro f cdv A outer s H E hr (a : D × Nat ) ds hp X
  have hNd : X.N.Nodup := sc_seen.nd
  have hN0 : X.N[0]? = some ("heap" : Str) := rfl
  have hN1 : X.N[1]? = some ("wide" : Str) := rfl
  have hN2 : X.N[2]? = some ("order" : Str) := rfl
  have hN3 : X.N[3]? = some ("place" : Str) := rfl
  have hN4 : X.N[4]? = some ("at" : Str) := rfl
  have hN5 : X.N[5]? = some ("record" : Str) := rfl
  have hN6 : X.N[6]? = some ("value" : Str) := rfl
  have hR : Room 7 X.A := hr
  have hu64 : X.A.units + 64 < cLine := by have := hR.un; omega
  have hu1 : X.A.units + 1 < cLine := by have := hR.un; omega
  have c_need_heap : Cal X.prog X.w X.K X.mg X.base 7 "need_heap" (toSp X.K 0 ct_need_heap) := cal_need_heap Z
  have c_met : Cal X.prog X.w X.K X.mg X.base 4 "met" (toSp X.K 0 ct_met) := cal_met Z
  have m_tuple : X.mg "tuple" = none := Z.b_tuple
  have m_enumerate : X.mg "enumerate" = none := Z.b_enumerate
  have c_is_pointer : Cal X.prog X.w X.K X.mg X.base 3 "is_pointer" (toSp X.K 0 cta_is_pointer) := cala_is_pointer Z
  obtain ⟨hds, hp⟩ := hp
  subst hds
  show WXs X (_ :: _) [ some a.1, some (D.int a.2), none, none, none, none, none] _
  obtain ⟨d, w⟩ := a
  obtain ⟨pl, w16, hf⟩ := hp
  dsimp only at pl w16 hf ⊢
  have im : Imm d := let ⟨n, _, h⟩ := pl; h.imm
  refine wx_st (wx_expr ?_)
  refine wx_call (S := ctx_need_heap_heap) (calx_need_heap_heap Z) hR (by decide) (by exact rfl) ?_
  walk_at "go"
  exact ⟨(d, w), rfl, pl, w16, hf⟩
theorem calx_look_alike_wide (Z : Fz K mg) : CalX P w K mg base 9 "look_alike" (toSpX K mg ctx_look_alike_wide) := by
  refine calx_of Z.d_look_alike sc_look_alike (fun a ds h => by rw [h.1]; rfl) ?_
  intro f cdv A outer s H E hr (a : D × D × D ) ds hp X
  have hNd : X.N.Nodup := sc_look_alike.nd
  have hN0 : X.N[0]? = some ("one" : Str) := rfl
  have hN1 : X.N[1]? = some ("other" : Str) := rfl
  have hN2 : X.N[2]? = some ("wide" : Str) := rfl
  have hR : Room 8 X.A := hr
  have hu64 : X.A.units + 64 < cLine := by have := hR.un; omega
  have hu1 : X.A.units + 1 < cLine := by have := hR.un; omega
  have c_need_heap : Cal X.prog X.w X.K X.mg X.base 7 "need_heap" (toSp X.K 0 ct_need_heap) := cal_need_heap Z
  have c_seen : Cal X.prog X.w X.K X.mg X.base 8 "seen" (toSp X.K 0 ct_seen) := cal_seen Z
  obtain ⟨hds, hp⟩ := hp
  subst hds
  show WXs X (_ :: _) [ some a.1, some a.2.1, some a.2.2] _
  obtain ⟨d, d2, wd⟩ := a
  obtain ⟨im, im2, hp, hw⟩ := hp
  dsimp only at im im2 hp hw ⊢
  have imw : Imm wd := let ⟨n, h⟩ := hp; h.imm
  refine wx_st (wx_expr ?_)
  refine wx_call (S := ctx_need_heap_wide) (calx_need_heap_wide Z) hR (by decide) (by exact rfl) ?_
  walk_at "go"
  exact ⟨(d, wd), rfl, im, hp, hw⟩
theorem calx_look_alike_heap (Z : Fz K mg) : CalX P w K mg base 9 "look_alike" (toSpX K mg ctx_look_alike_heap) := by
  refine calx_of Z.d_look_alike sc_look_alike (fun a ds h => by rw [h.1]; rfl) ?_
  intro f cdv A outer s H E hr (a : Hea × D × Nat ) ds hp X
  have hNd : X.N.Nodup := sc_look_alike.nd
  have hN0 : X.N[0]? = some ("one" : Str) := rfl
  have hN1 : X.N[1]? = some ("other" : Str) := rfl
  have hN2 : X.N[2]? = some ("wide" : Str) := rfl
  have hR : Room 8 X.A := hr
  have hu64 : X.A.units + 64 < cLine := by have := hR.un; omega
  have hu1 : X.A.units + 1 < cLine := by have := hR.un; omega
  have c_need_heap : Cal X.prog X.w X.K X.mg X.base 7 "need_heap" (toSp X.K 0 ct_need_heap) := cal_need_heap Z
  have c_seen : Cal X.prog X.w X.K X.mg X.base 8 "seen" (toSp X.K 0 ct_seen) := cal_seen Z
  obtain ⟨hds, hp⟩ := hp
  subst hds
  show WXs X (_ :: _) [ some (heaD a.1), some a.2.1, some (D.int a.2.2)] _
  obtain ⟨h, d, w⟩ := a
  obtain ⟨wf, pl, hf⟩ := hp
  dsimp only at wf pl hf ⊢
  have im : Imm d := let ⟨n, _, h⟩ := pl; h.imm
  have imh : Imm (heaD h) := imm_hea
  refine wx_ok (n := []) ?_
  walk_at "go"
  refine ⟨(h, w), ⟨rfl, wf⟩, fun r hr => ?_⟩
  have hr : r = .non := hr
  subst hr
  refine wx_st (wx_expr ?_)
  refine wx_call (S := ctx_need_heap_heap) (calx_need_heap_heap Z) hR (by decide) (by exact rfl) ?_
  walk_at "go"
  exact ⟨(d, w), rfl, pl, ⟨wf.w1, wf.w6⟩, hf⟩
end
end
section
local macro_rules | `(tactic| walk_at "gWO") => `(tactic| first | with_reducible refine wo_lst0F ?_ | with_reducible refine wo_lstF ?_ | with_reducible refine wo_dic0F ?_ | with_reducible refine wo_dic3F ?_)
local macro_rules | `(tactic| walk_at "gCalN") => `(tactic| ((with_reducible refine wo_listF ?h1 ?h2 ?_ ?h4); (case h1 => rfl); (case h2 => with_reducible assumption); (case h4 => rfl)))
def odds : List D := [.non, .int 0, .int (-1), .bl true, .str "1", .str "to", .tup [], .fz [], .fd [] [], .tup [.str "to"], .tup [.str "to", .int (-1)], .tup [.str "to", .bl true], .tup [.int 1, .int 2], .tup [.str "to", .int 0], .int 1000000000000000000]
theorem odds_pln : Plns 2 odds := by simp [odds, Plns, Pln]
def ct_law_as_odd : Ct := ⟨Sta × Int, fun a ds => ds = [sD a.1] ∧ SOk a.2 a.1 ∧ a.2 ≤ 900000000000, fun a d ds => ∃ s, d ∈ odds ∧ ds = [sD s] ∧ SOk (a.2 + 1) s⟩
def ctr_law_as_bent (N : Nat) : Ct := ⟨Sta × Int × Nat × D, fun a ds => ds = [sD a.1, a.2.2.2] ∧ SOk a.2.1 a.1 ∧ Pln a.2.2.1 a.2.2.2 ∧ (2 ≤ a.2.2.1 ∧ a.2.2.1 ≤ 5000) ∧ dep a.2.2.2 ≤ N ∧ a.2.1 + 4 * N ≤ 800000000000,
  fun a d ds => ∃ s, Pln (a.2.2.1 + 1) d ∧ dep d ≤ dep a.2.2.2 + 1 ∧ ds = [sD s] ∧ SOk (a.2.1 + 4 * N + 4) s⟩
theorem deps_app : ∀ {xs ys : List D}, deps (xs ++ ys) = max (deps xs) (deps ys)
  | [], ys => (Nat.zero_max _).symm
  | x :: xs, ys => by
    show max (dep x) (deps (xs ++ ys)) = max (max (dep x) (deps xs)) (deps ys)
    rw [deps_app, Nat.max_assoc]
theorem odds_dep {d : D} (h : d ∈ odds) : dep d ≤ 1 := by
  have := deps_mem h
  exact Nat.le_trans this (by decide)
theorem deps_sub {xs ys : List D} (h : ∀ d ∈ xs, d ∈ ys) : deps xs ≤ deps ys := deps_le fun d hd => deps_mem (h d hd)
section
variable {P : Program} {w : World} {K : PySem.W.Frag} {mg : Str → Option Value} {base : Heap}
theorem cal_law_as_odd (Z : Fz K mg) : Cal P w K mg base 4 "_law_as_odd" (toSp K 1 ct_law_as_odd) := by
  refine cal_of Z.d_law_as_odd sc_law_as_odd (fun a ds h => by rw [h.1]; rfl) (by decide) ?_
  intro f cdv A outer s H E hr (a : Sta × Int ) ds hp X
  have hNd : X.N.Nodup := sc_law_as_odd.nd
  have hN0 : X.N[0]? = some ("state" : Str) := rfl
  have hN1 : X.N[1]? = some ("some" : Str) := rfl
  have hR : Room 3 X.A := hr
  have hu64 : X.A.units + 64 < cLine := by have := hR.un; omega
  have hu1 : X.A.units + 1 < cLine := by have := hR.un; omega
  have c_law_pick : Cal X.prog X.w X.K X.mg X.base 3 "_law_pick" (toSp X.K 1 ct_law_pick) := cal_law_pick Z
  obtain ⟨hds, hp⟩ := hp
  subst hds
  show WSs X [0] (_ :: _) [ some (sD a.1), none] _
  obtain ⟨s, n⟩ := a
  obtain ⟨ok, hn⟩ := hp
  dsimp only at ok hn ⊢
  walk_at "go"
  rw [ten18]
  have imo : Imms odds := Plns.imms odds_pln
  refine ⟨imo, ?_⟩
  show ∃ d : D, Opd.val (D.fz odds) = Opd.val d ∧ _
  walk_at "go"
  refine ⟨(s, n, .fz odds, odds), ⟨rfl, ok, rfl, imo, ⟨Nat.le_of_ble_eq_true rfl, Nat.le_of_ble_eq_true rfl⟩, by dsimp only; omega⟩, ?_⟩
  rintro d d0 ⟨s1, hd, hs, ok1⟩
  cases hs
  dsimp only at hd ok1
  walk_at "go"
  exact ⟨[sD s1], rfl, s1, hd, rfl, ok1⟩
theorem calr_law_as_bent (Z : Fz K mg) : ∀ N : Nat, Cal P w K mg base (5 + N) "_law_as_bent" (toSp K 1 (ctr_law_as_bent N)) := by
  intro N
  induction N using Nat.strongRecOn with
  | ind N ih =>
  refine cast (by rw [show 4 + N + 1 = 5 + N from by omega]) (cal_of (k := 4 + N) (pin := 1) (S := ctr_law_as_bent N) Z.d_law_as_bent sc_law_as_bent (fun a ds h => by rw [h.1]; rfl) (by decide) ?_)
  intro f cdv A outer s H E hr (a : Sta × Int × Nat × D ) ds hp X
  have hNd : X.N.Nodup := sc_law_as_bent.nd
  have hN0 : X.N[0]? = some ("state" : Str) := rfl
  have hN1 : X.N[1]? = some ("item" : Str) := rfl
  have hN2 : X.N[2]? = some ("at" : Str) := rfl
  have hN3 : X.N[3]? = some ("way" : Str) := rfl
  have hR : Room (4 + N) X.A := hr
  have hu64 : X.A.units + 64 < cLine := by have := hR.un; omega
  have hu1 : X.A.units + 1 < cLine := by have := hR.un; omega
  have c_law_as_odd : Cal X.prog X.w X.K X.mg X.base 4 "_law_as_odd" (toSp X.K 1 ct_law_as_odd) := cal_law_as_odd Z
  have c_law_draw : Cal X.prog X.w X.K X.mg X.base 2 "_law_draw" (toSp X.K 1 ct_law_draw) := cal_law_draw Z
  have m_list : X.mg "list" = none := Z.b_list
  have m_isinstance : X.mg "isinstance" = none := Z.b_isinstance
  have m_tuple : X.mg "tuple" = none := Z.b_tuple
  have m_len : X.mg "len" = none := Z.b_len
  have c_self : ∀ M : Nat, M < N → Cal X.prog X.w X.K X.mg X.base (5 + M) "_law_as_bent" (toSp X.K 1 (ctr_law_as_bent M)) := ih
  obtain ⟨hds, hp⟩ := hp
  subst hds
  show WSs X [0] (_ :: _) [ some (sD a.1), some a.2.2.2, none, none] _
  obtain ⟨s, n, wd, d⟩ := a
  obtain ⟨ok, pl, ⟨w2, w5⟩, hd, hn⟩ := hp
  dsimp only at ok pl w2 w5 hd hn ⊢
  have im : Imm d := pl.imm
  have h0 := ok.n0
  cases d with
  | tup ds =>
    have hl : ds.length ≤ wd := pl.1
    have pls : Plns wd ds := pl.2
    have ims : Imms ds := Plns.imms pls
    have hc := cmp_eqTE (X := X) (ds := ds) hu64
    have hdd : 1 + deps ds ≤ N := hd
    walk_at "go"
    refine ⟨_, _, _, rfl, rfl, hc, ?_⟩
    refine ⟨fun he => ?_, fun he => ?_⟩
    · walk_at "go"
      refine ⟨(s, n), ⟨rfl, ok, by dsimp only; omega⟩, ?_⟩
      rintro r d0 ⟨s1, hr, hs, ok1⟩
      cases hs
      dsimp only at hr ok1
      walk_at "go"
      exact ⟨[sD s1], rfl, s1, (plns_iff.mp odds_pln r hr).mono (by show 2 ≤ wd + 1; omega), Nat.le_trans (odds_dep hr) (Nat.le_add_left 1 _), rfl, ok1.mono (by dsimp only; omega)⟩
    · have pos : 0 < ds.length := by
        cases ds with
        | nil => exact absurd he (by decide)
        | cons x xs => exact Nat.succ_pos _
      walk_at "go"
      refine ⟨(_, _, _), ⟨rfl, by with_reducible assumption, by dsimp only; (try simp only [ncast]); omega, by dsimp only; omega⟩, ?_⟩
      rintro _ _ ⟨r1, s1, rfl, hr1, hd, oks1⟩
      cases hd
      dsimp only at hr1 oks1
      try simp only [ncast] at hr1
      dsimp only [List.set]
      walk_at "go"
      refine ⟨fun h9 => ?_, fun h9 => ?_⟩
      · walk_at "go"
        refine ⟨(s1, _), ⟨rfl, oks1, by dsimp only; omega⟩, ?_⟩
        rintro r d0 ⟨s2, hr, hs, ok2⟩
        cases hs
        dsimp only at hr ok2
        walk_at "go"
        exact ⟨[sD s2], rfl, s2, (plns_iff.mp odds_pln r hr).mono (by show 2 ≤ wd + 1; omega), Nat.le_trans (odds_dep hr) (Nat.le_add_left 1 _), rfl, ok2.mono (by dsimp only; omega)⟩
      · walk_at "go"
        refine ⟨(_, _, _), ⟨rfl, by with_reducible assumption, by dsimp only; (try simp only [ncast]); omega, by dsimp only; omega⟩, ?_⟩
        rintro _ _ ⟨r2, s2, rfl, hr2, hd, oks2⟩
        cases hd
        dsimp only at hr2 oks2
        try simp only [ncast] at hr2
        dsimp only [List.set]
        walk_at "go"
        refine ⟨(_, _, _), ⟨rfl, by with_reducible assumption, by dsimp only; (try simp only [ncast]); omega, by dsimp only; omega⟩, ?_⟩
        rintro _ _ ⟨r3, s3, rfl, hr3, hd, oks3⟩
        cases hd
        dsimp only at hr3 oks3
        try simp only [ncast] at hr3
        dsimp only [List.set]
        obtain ⟨j, rfl⟩ : ∃ j : Nat, r2 = j := ⟨r2.toNat, by omega⟩
        have hj : j < ds.length := by omega
        have imj : Imm ds[j] := imms_iff.mp ims _ (List.getElem_mem hj)
        have plj : Pln wd ds[j] := plns_iff.mp pls _ (List.getElem_mem hj)
        have dj : dep ds[j] ≤ N - 1 := by
          have := deps_mem (List.getElem_mem hj)
          omega
        have e1 : cutD ds none (some (j : Int)) = ds.take j := by rw [cutD_to (by omega)]; rfl
        have e2 : cutD ds (some ((j : Int) + 1)) none = ds.drop (j + 1) := by
          rw [cutD_from (by omega)]
          congr 1
        have e3 : cutD ds (some (j : Int)) none = ds.drop j := by rw [cutD_from (by omega)]; rfl
        have e4 : cutD ds (some (j : Int)) (some ((j : Int) + 1)) = [ds[j]] := by
          rw [cutD_mid (by omega) (by omega)]
          have : ((j : Int) + 1).toNat - (j : Int).toNat = 1 := by omega
          rw [this, show (j : Int).toNat = j from rfl, List.drop_eq_getElem_cons hj]
          rfl
        have it : Imms (ds.take j) := imms_take ims
        have idr : Imms (ds.drop (j + 1)) := imms_drop ims
        have pt : Plns wd (ds.take j) := plns_sub pls fun d hd => List.mem_of_mem_take hd
        have pd : Plns wd (ds.drop (j + 1)) := plns_sub pls fun d hd => List.mem_of_mem_drop hd
        have lt : (ds.take j).length = j := by rw [List.length_take]; omega
        have ld : (ds.drop (j + 1)).length = ds.length - (j + 1) := List.length_drop
        have c_rec := c_self (N - 1) (by omega)
        walk_at "go"
        refine ⟨fun h4 => ?_, fun h4 => ?_⟩
        · walk_at "go"
          refine ⟨ds, _, ds[j], rfl, rfl, by rw [ix_nat (by omega)]; exact List.getElem?_eq_getElem hj, imj, ?_⟩
          walk_at "go"
          refine ⟨(s3, _, wd, ds[j]), ⟨rfl, oks3, plj, ⟨w2, w5⟩, dj, by dsimp only; omega⟩, ?_⟩
          rintro r d0 ⟨s4, hr, hrd, hs, ok4⟩
          cases hs
          dsimp only at hr ok4
          have imr : Imm r := hr.imm
          have imr1 : Imms [r] := ⟨imr, trivial⟩
          walk_at "go"
          rw [e1]
          refine ⟨_, _, _, rfl, rfl, AddD.tup (ds := ds.take j) (es := [r]) rfl rfl it imr1 (by rw [lt]; show j + 1 ≤ 100000; omega), ?_⟩
          walk_at "go"
          rw [e2]
          refine ⟨_, _, _, rfl, rfl, AddD.tup (ds := ds.take j ++ [r]) (es := ds.drop (j + 1)) rfl rfl (imms_app it imr1) idr (by rw [List.length_append, lt, ld]; show j + 1 + _ ≤ 100000; omega), ?_⟩
          walk_at "go"
          refine ⟨[sD s4], rfl, s4, ⟨by rw [List.length_append, List.length_append, lt, ld]; show j + 1 + _ ≤ wd + 1; omega, plns_app (plns_app (Plns.mono (Nat.le_succ wd) pt) ⟨hr, trivial⟩) (Plns.mono (Nat.le_succ wd) pd)⟩, by show 1 + deps (ds.take j ++ [r] ++ ds.drop (j + 1)) ≤ 1 + deps ds + 1; rw [deps_app, deps_app]; have q1 := deps_sub (xs := ds.take j) (ys := ds) fun d hd => List.mem_of_mem_take hd; have q2 := deps_sub (xs := ds.drop (j + 1)) (ys := ds) fun d hd => List.mem_of_mem_drop hd; have e : deps [r] = dep r := Nat.max_zero _; have q3 := deps_mem (List.getElem_mem hj); dsimp only at hrd; omega, rfl, ok4.mono (by dsimp only; omega)⟩
        · walk_at "go"
          refine ⟨fun h4 => ?_, fun h4 => ?_⟩
          · walk_at "go"
            rw [e1, e2]
            refine ⟨_, _, _, rfl, rfl, AddD.tup (ds := ds.take j) (es := ds.drop (j + 1)) rfl rfl it idr (by rw [lt, ld]; omega), ?_⟩
            walk_at "go"
            refine ⟨[sD s3], rfl, s3, ⟨by rw [List.length_append, lt, ld]; show _ ≤ wd + 1; omega, plns_app (Plns.mono (Nat.le_succ wd) pt) (Plns.mono (Nat.le_succ wd) pd)⟩, by show 1 + deps (ds.take j ++ ds.drop (j + 1)) ≤ 1 + deps ds + 1; rw [deps_app]; have q1 := deps_sub (xs := ds.take j) (ys := ds) fun d hd => List.mem_of_mem_take hd; have q2 := deps_sub (xs := ds.drop (j + 1)) (ys := ds) fun d hd => List.mem_of_mem_drop hd; omega, rfl, oks3.mono (by dsimp only; omega)⟩
          · walk_at "go"
            refine ⟨fun h5 => ?_, fun h5 => ?_⟩
            · walk_at "go"
              rw [e1, e4]
              refine ⟨_, _, _, rfl, rfl, AddD.tup (ds := ds.take j) (es := [ds[j]]) rfl rfl it ⟨imj, trivial⟩ (by rw [lt]; show j + 1 ≤ 100000; omega), ?_⟩
              walk_at "go"
              rw [e3]
              have ld3 : (ds.drop j).length = ds.length - j := List.length_drop
              refine ⟨_, _, _, rfl, rfl, AddD.tup (ds := ds.take j ++ [ds[j]]) (es := ds.drop j) rfl rfl (imms_app it ⟨imj, trivial⟩) (imms_drop ims) (by rw [List.length_append, lt, ld3]; show j + 1 + _ ≤ 100000; omega), ?_⟩
              walk_at "go"
              refine ⟨[sD s3], rfl, s3, ⟨by rw [List.length_append, List.length_append, lt, ld3]; show j + 1 + _ ≤ wd + 1; omega, plns_app (plns_app (Plns.mono (Nat.le_succ wd) pt) ⟨plj.mono (Nat.le_succ wd), trivial⟩) (Plns.mono (Nat.le_succ wd) (plns_sub pls fun d hd => List.mem_of_mem_drop hd))⟩, by show 1 + deps (ds.take j ++ [ds[j]] ++ ds.drop j) ≤ 1 + deps ds + 1; rw [deps_app, deps_app]; have q1 := deps_sub (xs := ds.take j) (ys := ds) fun d hd => List.mem_of_mem_take hd; have q2 := deps_sub (xs := ds.drop j) (ys := ds) fun d hd => List.mem_of_mem_drop hd; have q3 := deps_mem (List.getElem_mem hj); have e : deps [ds[j]] = dep ds[j] := Nat.max_zero _; omega, rfl, oks3.mono (by dsimp only; omega)⟩
            · walk_at "go"
              refine ⟨[sD s3], rfl, s3, ⟨by show ds.length ≤ wd + 1; omega, Plns.mono (Nat.le_succ wd) pls⟩, Nat.zero_le _, rfl, oks3.mono (by dsimp only; omega)⟩
  | op v => exact pl.elim
  | obj C fs ds => exact pl.elim
  | exc C => exact pl.elim
  | exd C fs => exact pl.elim
  | ow o => exact pl.elim
  | fw o => exact pl.elim
  | fo C fs ds => exact pl.elim
  | lst ds => exact pl.elim
  | dic ks ds => exact pl.elim
  | pt ds => exact pl.elim
  | _ =>
    walk_at "go"
    refine ⟨(s, n), ⟨rfl, ok, by dsimp only; omega⟩, ?_⟩
    rintro r d0 ⟨s1, hr, hs, ok1⟩
    cases hs
    dsimp only at hr ok1
    walk_at "go"
    exact ⟨[sD s1], rfl, s1, (plns_iff.mp odds_pln r hr).mono (by show 2 ≤ wd + 1; omega), Nat.le_trans (odds_dep hr) (Nat.le_add_left 1 _), rfl, ok1.mono (by dsimp only; omega)⟩
end
end
section
def ct_law_is_whole : Ct := ⟨D, fun d ds => ds = [d] ∧ ∃ n, Pln n d, fun d r _ => r = .bl (isI d)⟩
def ct_law_k00_is_value : Ct := ⟨D × Nat, fun a ds => ds = [a.1, .int a.2] ∧ (∃ n, Pln n a.1) ∧ a.2 ≤ 100000, fun a r _ => r = .bl (isVal a.1 a.2)⟩
def ct_law_k00_is_heap : Ct := ⟨D × Nat, fun a ds => ds = [a.1, .int a.2] ∧ (∃ n, n ≤ 100000 ∧ Pln n a.1) ∧ (1 ≤ a.2 ∧ a.2 ≤ 6), fun a r _ => r = .bl (isHea a.1 a.2)⟩
theorem fm_one {n : Int} : ∀ {xs : List D}, (xs.filterMap fun e => if isVal e n = true then none else some (D.int 1)) = ((xs.filter fun e => !isVal e n).map fun _ => (1 : Int)).map D.int
  | [] => rfl
  | x :: xs => by
    cases h : isVal x n with
    | true => rw [List.filterMap_cons_none (by rw [if_pos h]), List.filter_cons_of_neg (by rw [h]; decide), fm_one]
    | false =>
      rw [List.filterMap_cons_some (by rw [if_neg (by rw [h]; exact Bool.false_ne_true)]), List.filter_cons_of_pos (by rw [h]; rfl), fm_one]
      rfl
section
variable {P : Program} {w : World} {K : PySem.W.Frag} {mg : Str → Option Value} {base : Heap}
theorem cal_law_is_whole (Z : Fz K mg) : Cal P w K mg base 1 "_law_is_whole" (toSp K 0 ct_law_is_whole) := by
  refine cal_of Z.d_law_is_whole sc_law_is_whole (fun a ds h => by rw [h.1]; rfl) (by decide) ?_
  intro f cdv A outer s H E hr (a : D ) ds hp X
  have hNd : X.N.Nodup := sc_law_is_whole.nd
  have hN0 : X.N[0]? = some ("item" : Str) := rfl
  have hR : Room 0 X.A := hr
  have hu64 : X.A.units + 64 < cLine := by have := hR.un; omega
  have hu1 : X.A.units + 1 < cLine := by have := hR.un; omega
  have m_isinstance : X.mg "isinstance" = none := Z.b_isinstance
  have m_int : X.mg "int" = none := Z.b_int
  have m_bool : X.mg "bool" = none := Z.b_bool
  obtain ⟨hds, hp⟩ := hp
  subst hds
  show WSs X [] (_ :: _) [ some a] _
  obtain ⟨nn, pl⟩ := hp
  cases a with
  | op v => exact pl.elim
  | obj C fs ds => exact pl.elim
  | exc C => exact pl.elim
  | exd C fs => exact pl.elim
  | ow o => exact pl.elim
  | fw o => exact pl.elim
  | fo C fs ds => exact pl.elim
  | lst ds => exact pl.elim
  | dic ks ds => exact pl.elim
  | pt ds => exact pl.elim
  | tup ds =>
    have im : Imm (.tup ds) := pl.imm
    walk_at "go"
    exact ⟨[], rfl, rfl⟩
  | _ =>
    walk_at "go"
    exact ⟨[], rfl, rfl⟩
theorem cal_law_k00_is_value (Z : Fz K mg) : Cal P w K mg base 2 "_law_k00_is_value" (toSp K 0 ct_law_k00_is_value) := by
  refine cal_of Z.d_law_k00_is_value sc_law_k00_is_value (fun a ds h => by rw [h.1]; rfl) (by decide) ?_
  intro f cdv A outer s H E hr (a : D × Nat ) ds hp X
  have hNd : X.N.Nodup := sc_law_k00_is_value.nd
  have hN0 : X.N[0]? = some ("value" : Str) := rfl
  have hN1 : X.N[1]? = some ("many" : Str) := rfl
  have hR : Room 1 X.A := hr
  have hu64 : X.A.units + 64 < cLine := by have := hR.un; omega
  have hu1 : X.A.units + 1 < cLine := by have := hR.un; omega
  have c_law_is_whole : Cal X.prog X.w X.K X.mg X.base 1 "_law_is_whole" (toSp X.K 0 ct_law_is_whole) := cal_law_is_whole Z
  have m_abs : X.mg "abs" = none := Z.b_abs
  have m_isinstance : X.mg "isinstance" = none := Z.b_isinstance
  have m_tuple : X.mg "tuple" = none := Z.b_tuple
  have m_len : X.mg "len" = none := Z.b_len
  have m_str : X.mg "str" = none := Z.b_str
  obtain ⟨hds, hp⟩ := hp
  subst hds
  show WSs X [] (_ :: _) [ some a.1, some (D.int a.2)] _
  obtain ⟨d, m⟩ := a
  obtain ⟨⟨nn, pl⟩, hm⟩ := hp
  dsimp only at pl hm ⊢
  have im : Imm d := pl.imm
  cases d with
  | op v => exact pl.elim
  | obj C fs ds => exact pl.elim
  | exc C => exact pl.elim
  | exd C fs => exact pl.elim
  | ow o => exact pl.elim
  | fw o => exact pl.elim
  | fo C fs ds => exact pl.elim
  | lst ds => exact pl.elim
  | dic ks ds => exact pl.elim
  | pt ds => exact pl.elim
  | int i =>
    walk_at "go"
    refine ⟨.int i, ⟨rfl, nn, pl⟩, fun r hr => ?_⟩
    have hr : r = .bl true := hr
    subst hr
    walk_at "go"
    rw [ten18]
    refine ⟨[], rfl, congrArg D.bl ?_⟩
    show _ = (false || isW (.int i) || false)
    by_cases q : -1000000000000000000 < i ∧ i < 1000000000000000000
    · rw [show isW (.int i) = true from decide_eq_true q]
      refine decide_eq_true ?_
      split <;> omega
    · rw [show isW (.int i) = false from decide_eq_false q]
      refine decide_eq_false ?_
      split <;> omega
  | tup ds =>
    have pls : Plns nn ds := pl.2
    walk_at "go"
    refine ⟨.tup ds, ⟨rfl, nn, pl⟩, fun r hr => ?_⟩
    have hr : r = .bl false := hr
    subst hr
    rcases ds with _ | ⟨d1, _ | ⟨d2, _ | ⟨d3, ds⟩⟩⟩
    · walk_at "go"
      exact ⟨[], rfl, rfl⟩
    · walk_at "go"
      exact ⟨[], rfl, rfl⟩
    · have p1 : Pln nn d1 := pls.1
      have p2 : Pln nn d2 := pls.2.1
      have i1 : Imm d1 := p1.imm
      have i2 : Imm d2 := p2.imm
      cases d1 with
      | str x =>
        walk_at "go"
        refine ⟨_, _, _, rfl, rfl, cmp_neS, ?_⟩
        refine ⟨fun h => ?_, fun h => ?_⟩
        · have hx : x ≠ toS := by
            intro e
            subst e
            simp [toS] at h
          walk_at "go"
          refine ⟨[], rfl, congrArg D.bl ?_⟩
          show false = (false || false || ((isTo (.str x) && isN d2 0) && ltI d2 m))
          rw [show isTo (.str x) = false from decide_eq_false hx]
          rfl
        · have hx : x = toS := by
            have : (!decide (x = toS)) = false := h
            simpa using this
          subst hx
          walk_at "go"
          refine ⟨d2, ⟨rfl, nn, p2⟩, fun r hr => ?_⟩
          have hr : r = .bl (isI d2) := hr
          subst hr
          have ev : isVal (.tup [.str toS, d2]) m = (isN d2 0 && ltI d2 m) := by
            show (false || false || ((isTo (.str toS) && isN d2 0) && ltI d2 m)) = _
            rw [show isTo (.str toS) = true from decide_eq_true (rfl : toS = toS)]
            rfl
          cases d2 with
          | int j =>
            walk_at "go"
            refine' wvc_link ?h1 ?_
            case h1 => walk_at "ci"
            walk_at "go"
            have ev2 : isVal (.tup [.str toS, .int j]) m = ((isW (.int j) && decide (0 ≤ j)) && decide (j < (m : Int))) := ev
            refine ⟨fun h0 => ?_, fun h0 => ?_⟩
            · have h0 := of_decide_eq_true h0
              refine' wvc_last ?h1 ?_
              case h1 => walk_at "ci"
              walk_at "go"
              refine ⟨[], rfl, congrArg D.bl (Eq.trans ?_ ev2.symm)⟩
              by_cases q : j < m
              · rw [show isW (.int j) = true from decide_eq_true (by omega), decide_eq_true h0, decide_eq_true q]
                rfl
              · rw [decide_eq_false q, Bool.and_false]
            · have h0 := of_decide_eq_false h0
              walk_at "go"
              refine ⟨[], rfl, congrArg D.bl (Eq.trans ?_ ev2.symm)⟩
              rw [decide_eq_false h0, Bool.and_false, Bool.false_and]
          | _ =>
            walk_at "go"
            exact ⟨[], rfl, congrArg D.bl (Eq.trans rfl ev.symm)⟩
      | op v => exact p1.elim
      | obj C fs ds => exact p1.elim
      | exc C => exact p1.elim
      | exd C fs => exact p1.elim
      | ow o => exact p1.elim
      | fw o => exact p1.elim
      | fo C fs ds => exact p1.elim
      | lst ds => exact p1.elim
      | dic ks ds => exact p1.elim
      | pt ds => exact p1.elim
      | _ =>
        walk_at "go"
        exact ⟨[], rfl, rfl⟩
    · walk_at "go"
      exact ⟨[], rfl, rfl⟩
  | non =>
    walk_at "go"
    exact ⟨[], rfl, rfl⟩
  | _ =>
    walk_at "go"
    refine ⟨_, ⟨rfl, nn, pl⟩, fun r hr => ?_⟩
    have hr : r = .bl false := hr
    subst hr
    walk_at "go"
    exact ⟨[], rfl, rfl⟩
theorem cal_law_k00_is_heap (Z : Fz K mg) : Cal P w K mg base 3 "_law_k00_is_heap" (toSp K 0 ct_law_k00_is_heap) := by
  refine cal_of Z.d_law_k00_is_heap sc_law_k00_is_heap (fun a ds h => by rw [h.1]; rfl) (by decide) ?_
  intro f cdv A outer s H E hr (a : D × Nat ) ds hp X
  have hNd : X.N.Nodup := sc_law_k00_is_heap.nd
  have hN0 : X.N[0]? = some ("value" : Str) := rfl
  have hN1 : X.N[1]? = some ("wide" : Str) := rfl
  have hN2 : X.N[2]? = some ("record" : Str) := rfl
  have hN3 : X.N[3]? = some ("item" : Str) := rfl
  have hR : Room 2 X.A := hr
  have hu64 : X.A.units + 64 < cLine := by have := hR.un; omega
  have hu1 : X.A.units + 1 < cLine := by have := hR.un; omega
  have m_isinstance : X.mg "isinstance" = none := Z.b_isinstance
  have m_tuple : X.mg "tuple" = none := Z.b_tuple
  have m_len : X.mg "len" = none := Z.b_len
  have c_law_k00_is_value : Cal X.prog X.w X.K X.mg X.base 2 "_law_k00_is_value" (toSp X.K 0 ct_law_k00_is_value) := cal_law_k00_is_value Z
  obtain ⟨hds, hp⟩ := hp
  subst hds
  show WSs X [] (_ :: _) [ some a.1, some (D.int a.2), none, none] _
  obtain ⟨d, w⟩ := a
  obtain ⟨⟨nn, hnn, pl⟩, w1, w6⟩ := hp
  dsimp only at pl w1 w6 ⊢
  have im : Imm d := pl.imm
  cases d with
  | tup ds =>
    have hl : ds.length ≤ nn := pl.1
    have pls : Plns nn ds := pl.2
    have ims : Imms ds := Plns.imms pls
    walk_at "go"
    refine ⟨_, _, _, rfl, rfl, cmp_eqTE hu64, ?_⟩
    cases q : ds.isEmpty with
    | true =>
      walk_at "go"
      refine ⟨[], rfl, congrArg D.bl ?_⟩
      show false = (!ds.isEmpty && _)
      rw [q]
      rfl
    | false =>
      walk_at "go"
      refine ws_for PassesOwn.never rfl ?_
      refine wi_tup ?_
      walk_at "go"
      have fin : ∀ {j : Nat} {r : D}, ds[j]? = some r → isRec r w (ds.length : Nat) = false → isHea (.tup ds) w = false := fun {j r} e hf => by
        show (!ds.isEmpty && ds.all (fun r => isRec r w (ds.length : Nat))) = false
        rw [show (ds.all fun r => isRec r w (ds.length : Nat)) = false from List.all_eq_false.mpr ⟨r, List.mem_of_getElem? e, by rw [hf]; exact Bool.false_ne_true⟩]
        simp
      refine ⟨fun j E' => ∃ o2 : Option D, (∀ r ∈ ds.take j, isRec r w (ds.length : Nat) = true) ∧ E' = [some (.tup ds), some (.int w), o2, none], ⟨_, (fun r hr => nomatch (by simpa using hr : r ∈ ([] : List D))), rfl⟩, (fun _ _ _ _ p h => nomatch h), ?_, ?_⟩
      · rintro j E' hj ⟨o2, hall, rfl⟩
        have er : ds[j]? = some ds[j] := List.getElem?_eq_getElem hj
        have pr : Pln nn ds[j] := plns_iff.mp pls _ (List.getElem_mem hj)
        have imr : Imm ds[j] := pr.imm
        show WG _ _ _ (ds.getD j .non) _ _
        rw [show ds.getD j .non = ds[j] from by rw [List.getD_eq_getElem?_getD, er]; rfl]
        have nxt : isRec ds[j] w (ds.length : Nat) = true → ∀ r ∈ ds.take (j + 1), isRec r w (ds.length : Nat) = true := fun h r hr => by
          rw [take_next er] at hr
          rcases List.mem_append.mp hr with q | q
          · exact hall r q
          · rw [List.mem_singleton.mp q]; exact h
        generalize ds[j] = r at er pr imr nxt
        cases r with
        | op v => exact pr.elim
        | obj C fs ds => exact pr.elim
        | exc C => exact pr.elim
        | exd C fs => exact pr.elim
        | ow o => exact pr.elim
        | fw o => exact pr.elim
        | fo C fs ds => exact pr.elim
        | lst ds => exact pr.elim
        | dic ks ds => exact pr.elim
        | pt ds => exact pr.elim
        | tup rs =>
          have hlr : rs.length ≤ nn := pr.1
          have plr : Plns nn rs := pr.2
          have imrs : Imms rs := Plns.imms plr
          walk_at "go"
          refine ⟨fun h => ?_, fun h => ?_⟩
          · have h : rs.length ≠ w := by
              intro e
              rw [e] at h
              simp at h
            walk_at "go"
            exact ⟨[], rfl, congrArg D.bl (fin er (by show (decide (rs.length = w) && _) = false; rw [decide_eq_false h]; rfl)).symm⟩
          have h : rs.length = w := by
            have h : (!decide ((rs.length : Int) = (w : Int))) = false := h
            simp at h
            omega
          walk_at "go"
          refine' wo_lcX (own := [("item", 3)]) rfl hNd ?ok ?hg ?_ ?hs
          case ok => exact (show BlkOk ["value", "wide", "record", "item"] (defScope s_law_k00_is_heap) _ [("item", 3)] from ⟨rfl, by decide +kernel, by decide +kernel, by decide +kernel, by decide +kernel⟩)
          case hs => exact fun _ => rfl
          case hg => exact blk_name hNd hN3 rfl
          refine wi_tup ?_
          walk_at "go"
          refine ⟨D, rs, id, fun e => if isVal e (ds.length : Nat) = true then none else some (.int 1), rfl, by omega, fun j h => by show List.getD _ _ _ = _; rw [List.getD_eq_getElem?_getD, List.getElem?_eq_getElem h]; rfl, (fun p h => nomatch h), ?_, ?_⟩
          · intro e he
            have pe := plns_iff.mp plr e he
            have ime : Imm e := pe.imm
            dsimp only [id]
            refine ⟨_, tgb_name (by decide) (Nat.le_of_ble_eq_true rfl), fun s H C cl fp => ?_⟩
            try dsimp only [List.set]
            refine wif_one ?_
            walk_at "go"
            refine ⟨(e, ds.length), ⟨rfl, ⟨nn, pe⟩, by dsimp only; omega⟩, fun t ht => ?_⟩
            have ht : t = .bl (isVal e (ds.length : Nat)) := ht
            subst ht
            cases qv : isVal e (ds.length : Nat) with
            | true =>
              walk_at "go"
              exact ⟨rfl, rfl⟩
            | false =>
              walk_at "go"
              intro s1 H1 C1 cl1 fp1
              walk_at "go"
              exact ⟨rfl, rfl⟩
          rw [fm_one]
          walk_at "go"
          refine ⟨fun hb => ?_, fun hb => ?_⟩
          · have hb : rs.filter (fun e => !isVal e (ds.length : Nat)) ≠ [] := by
              intro e
              rw [e] at hb
              exact absurd hb (by decide)
            obtain ⟨e, he⟩ := List.exists_mem_of_ne_nil _ hb
            obtain ⟨he1, he2⟩ := List.mem_filter.mp he
            walk_at "go"
            refine ⟨[], rfl, congrArg D.bl (fin er ?_).symm⟩
            show (decide (rs.length = w) && rs.all (fun e => isVal e (ds.length : Nat))) = false
            rw [show (rs.all fun e => isVal e (ds.length : Nat)) = false from List.all_eq_false.mpr ⟨e, he1, by simpa using he2⟩, Bool.and_false]
          · have hb : rs.filter (fun e => !isVal e (ds.length : Nat)) = [] := by
              have := of_decide_eq_true (show decide (List.map (fun _ => (1 : Int)) (rs.filter fun e => !isVal e (ds.length : Nat)) = []) = true by simpa using hb)
              simpa using this
            walk_at "go"
            refine ⟨_, nxt ?_, rfl⟩
            show (decide (rs.length = w) && rs.all (fun e => isVal e (ds.length : Nat))) = true
            rw [decide_eq_true h, List.all_eq_true.mpr fun e he => by
              have := List.filter_eq_nil_iff.mp hb e he
              simpa using this]
            rfl
        | _ =>
          walk_at "go"
          exact ⟨[], rfl, congrArg D.bl (fin er rfl).symm⟩
      · rintro E' ⟨o2, hall, rfl⟩
        rw [List.take_length] at hall
        walk_at "go"
        refine ⟨[], rfl, congrArg D.bl ?_⟩
        show true = (!ds.isEmpty && ds.all (fun r => isRec r w (ds.length : Nat)))
        rw [q, List.all_eq_true.mpr hall]
        rfl
  | op v => exact pl.elim
  | obj C fs ds => exact pl.elim
  | exc C => exact pl.elim
  | exd C fs => exact pl.elim
  | ow o => exact pl.elim
  | fw o => exact pl.elim
  | fo C fs ds => exact pl.elim
  | lst ds => exact pl.elim
  | dic ks ds => exact pl.elim
  | pt ds => exact pl.elim
  | _ =>
    walk_at "go"
    exact ⟨[], rfl, rfl⟩
end
end
section
local macro_rules | `(tactic| walk_at "gCalN") => `(tactic| first | ((with_reducible refine wo_isXc ?h1 ?h2 ?_ ?h4 ?h5); (case h1 => rfl); (case h2 => with_reducible assumption); (case h4 => rfl); (case h5 => rfl)) | ((with_reducible refine wo_isXn ?h1 ?h2 ?_ ?h4 ?h5); (case h1 => rfl); (case h2 => with_reducible assumption); (case h4 => rfl); (case h5 => rfl)))
local macro_rules | `(tactic| walk_at "gName") => `(tactic| ((with_reducible refine' wo_cls ?h1 ?h2 ?_ ?h4); (case h1 => rfl); (case h2 => with_reducible assumption); (case h4 => decide)))
abbrev ct_law_as_bent : Ct := ctr_law_as_bent 4
theorem pln_hea {w : Nat} {h : Hea} (wf : WfH w h) (hl : h.length ≤ 1000) : Pln 1000 (heaD h) := by
  have w6 := wf.w6
  refine ⟨by rw [List.length_map]; exact hl, plns_map fun r hr => ⟨by rw [List.length_map, wf.len r hr]; omega, plns_map fun v _ => pln_hv (by decide) v⟩⟩
theorem dep_hv : ∀ v : HV, dep (hvD v) ≤ 1
  | .non => Nat.zero_le _
  | .num _ => Nat.zero_le _
  | .ptr _ => Nat.le_refl _
theorem dep_hea {h : Hea} : dep (heaD h) ≤ 3 := by
  have h1 : ∀ r : Rec, dep (recD r) ≤ 2 := fun r => by
    have := deps_le (n := 1) (ds := r.map hvD) fun d hd => by
      obtain ⟨v, _, rfl⟩ := List.mem_map.mp hd
      exact dep_hv v
    show 1 + deps (r.map hvD) ≤ 2
    omega
  have := deps_le (n := 2) (ds := h.map recD) fun d hd => by
    obtain ⟨r, _, rfl⟩ := List.mem_map.mp hd
    exact h1 r
  show 1 + deps (h.map recD) ≤ 3
  omega
theorem val_of {d : D} {m : Nat} {n : Nat} (pl : Pln n d) (h : isVal d m = true) : ∃ v : HV, d = hvD v ∧ v.ok m := by
  cases d with
  | non => exact ⟨.non, rfl, trivial⟩
  | int i =>
    refine ⟨.num i, rfl, ?_⟩
    have h : (false || isW (.int i) || false) = true := h
    have h : isW (.int i) = true := by simpa using h
    have h : decide (-1000000000000000000 < i ∧ i < 1000000000000000000) = true := h
    show -1000000000000000000 < i ∧ i < 1000000000000000000
    exact of_decide_eq_true h
  | tup ds =>
    have h : (false || false || (isPtr (.tup ds) && ptrLt (.tup ds) m)) = true := h
    have h : (isPtr (.tup ds) && ptrLt (.tup ds) m) = true := by simpa using h
    obtain ⟨h1, h2⟩ := Bool.and_eq_true_iff.mp h
    obtain ⟨i, e, hi⟩ := ptr_of h1
    rw [e] at h2 ⊢
    have h2 : i < (m : Int) := of_decide_eq_true h2
    refine ⟨.ptr i.toNat, ?_, ?_⟩
    · show _ = D.tup [.str toS, .int (i.toNat : Int)]
      rw [Int.toNat_of_nonneg hi]
    · show i.toNat < m
      omega
  | bl b => exact absurd h (by simp [isVal, DL.isNon, isW, isPtr, two])
  | str x => exact absurd h (by simp [isVal, DL.isNon, isW, isPtr, two])
  | fz ds => exact absurd h (by simp [isVal, DL.isNon, isW, isPtr, two])
  | fd ks ds => exact absurd h (by simp [isVal, DL.isNon, isW, isPtr, two])
  | op v => exact pl.elim
  | obj C fs ds => exact pl.elim
  | exc C => exact pl.elim
  | exd C fs => exact pl.elim
  | ow o => exact pl.elim
  | fw o => exact pl.elim
  | fo C fs ds => exact pl.elim
  | lst ds => exact pl.elim
  | dic ks ds => exact pl.elim
  | pt ds => exact pl.elim
theorem vals_of {m n : Nat} : ∀ {ds : List D}, Plns n ds → (∀ e ∈ ds, isVal e m = true) → ∃ r : Rec, ds = r.map hvD ∧ ∀ v ∈ r, v.ok m
  | [], _, _ => ⟨[], rfl, fun _ h => nomatch h⟩
  | d :: ds, pl, h => by
    obtain ⟨v, e, ok⟩ := val_of pl.1 (h d List.mem_cons_self)
    obtain ⟨r, e2, ok2⟩ := vals_of pl.2 fun x hx => h x (List.mem_cons_of_mem _ hx)
    refine ⟨v :: r, by rw [e, e2]; rfl, fun u hu => ?_⟩
    rcases List.mem_cons.mp hu with q | q
    · rw [q]; exact ok
    · exact ok2 u q
theorem recs_of {w m n : Nat} : ∀ {ds : List D}, Plns n ds → (∀ e ∈ ds, isRec e w m = true) → ∃ h : Hea, ds = h.map recD ∧ (∀ r ∈ h, r.length = w) ∧ ∀ r ∈ h, ∀ v ∈ r, v.ok m
  | [], _, _ => ⟨[], rfl, (fun _ h => nomatch h), fun _ h => nomatch h⟩
  | d :: ds, pl, h => by
    obtain ⟨hh, e2, l2, ok2⟩ := recs_of (w := w) (m := m) pl.2 fun x hx => h x (List.mem_cons_of_mem _ hx)
    have hd := h d List.mem_cons_self
    have pd := pl.1
    obtain ⟨rs, rfl⟩ : ∃ rs, d = .tup rs := by
      cases d <;> first | exact ⟨_, rfl⟩ | exact absurd hd (by simp [isRec])
    have hd : (decide (rs.length = w) && rs.all (fun e => isVal e m)) = true := hd
    obtain ⟨h1, h3⟩ := Bool.and_eq_true_iff.mp hd
    have h1 := of_decide_eq_true h1
    obtain ⟨r, e3, ok3⟩ := vals_of (m := m) (show Plns n rs from pd.2) (List.all_eq_true.mp h3)
    refine ⟨r :: hh, by rw [e2, e3]; rfl, fun u hu => ?_, fun u hu => ?_⟩
    · rcases List.mem_cons.mp hu with q | q
      · rw [q, ← h1, e3, List.length_map]
      · exact l2 u q
    · rcases List.mem_cons.mp hu with q | q
      · rw [q]; exact ok3
      · exact ok2 u q
theorem hea_of {d : D} {w n : Nat} (pl : Pln n d) (hn : n ≤ 100000) (w1 : 1 ≤ w) (w6 : w ≤ 6) (h : isHea d w = true) : ∃ g : Hea, d = heaD g ∧ WfH w g := by
  obtain ⟨ds, rfl⟩ : ∃ ds, d = .tup ds := by
    cases d <;> first | exact ⟨_, rfl⟩ | exact absurd h (by simp [isHea])
  have h : (!ds.isEmpty && ds.all (fun r => isRec r w (ds.length : Nat))) = true := h
  obtain ⟨h1, h2⟩ := Bool.and_eq_true_iff.mp h
  have hl : ds.length ≤ n := pl.1
  obtain ⟨g, e, l, ok⟩ := recs_of (w := w) (m := ds.length) (show Plns n ds from pl.2) (List.all_eq_true.mp h2)
  have lg : g.length = ds.length := by rw [e, List.length_map]
  refine ⟨g, by rw [e]; rfl, ⟨w1, w6, ?_, by omega, l, fun r hr v hv => by rw [lg]; exact ok r hr v hv⟩⟩
  rw [lg]
  cases ds with
  | nil => exact absurd h1 (by decide)
  | cons x xs => exact Nat.succ_pos _
def owdV : List D := [.int 0, .int 7, .int (-1), .non, .bl true, .str "2", .tup [.int 2], .int 1000000000000000000]
theorem owd_pln {d : D} (h : d ∈ owdV) : Pln 2 d := plns_iff.mp (by simp [owdV, Plns, Pln] : Plns 2 owdV) d h
theorem owd_no {d : D} (h : d ∈ owdV) : isWd d = false := by
  simp only [owdV, List.mem_cons, List.not_mem_nil, or_false] at h
  rcases h with rfl | rfl | rfl | rfl | rfl | rfl | rfl | rfl <;> decide
def ct_law : Ct := ⟨List Int, fun ns ds => ds = [.fz (ns.map D.int)] ∧ ns.length ≤ 1000, fun ns d _ => d = .bl true⟩
section
variable {P : Program} {w : World} {K : PySem.W.Frag} {mg : Str → Option Value} {base : Heap}
theorem cal_law_as_bent (Z : Fz K mg) : Cal P w K mg base 9 "_law_as_bent" (toSp K 1 ct_law_as_bent) := calr_law_as_bent Z 4
theorem ok_law {f : Addr} {fd : FuncData} (Z : Fz K mg) (F : FunD K "law" "law" (defArgs s_law) (defBody s_law) (defScope s_law) [] [] f fd) (LA : ∀ env : Env, env.code = fd.code → env.qual = "law.<locals>." → LamAt base mg env) : FnOk P w K mg base CX0 16 f fd ["script"] (toSp K 0 ct_law) := by
  refine fn_okL F sc_law (fun a ds h => by rw [h.1]; rfl) (by decide) ?_
  intro A outer s H E hr (a : List Int ) ds hp X
  have lam : LamAt X.base X.mg X.env := LA _ rfl rfl
  obtain ⟨CE, hCE⟩ : ∃ C : Addr, X.mg "CopyError" = some (.ref C) := Z.c_CopyError
  have hNd : X.N.Nodup := sc_law.nd
  have hN0 : X.N[0]? = some ("script" : Str) := rfl
  have hN1 : X.N[1]? = some ("state" : Str) := rfl
  have hN2 : X.N[2]? = some ("lap" : Str) := rfl
  have hN3 : X.N[3]? = some ("wide" : Str) := rfl
  have hN4 : X.N[4]? = some ("heap_here" : Str) := rfl
  have hN5 : X.N[5]? = some ("bent" : Str) := rfl
  have hN6 : X.N[6]? = some ("value" : Str) := rfl
  have hN7 : X.N[7]? = some ("odd" : Str) := rfl
  have hN8 : X.N[8]? = some ("works" : Str) := rfl
  have hN9 : X.N[9]? = some ("work" : Str) := rfl
  have hN10 : X.N[10]? = some ("many" : Str) := rfl
  have hN11 : X.N[11]? = some ("due" : Str) := rfl
  have hN12 : X.N[12]? = some ("caught" : Str) := rfl
  have hR : Room 15 X.A := hr
  have hu64 : X.A.units + 64 < cLine := by have := hR.un; omega
  have hu1 : X.A.units + 1 < cLine := by have := hR.un; omega
  have c_law_begun : Cal X.prog X.w X.K X.mg X.base 1 "_law_begun" (toSp X.K 0 ct_law_begun) := cal_law_begun Z
  have m_range : X.mg "range" = none := Z.b_range
  have c_law_pick : Cal X.prog X.w X.K X.mg X.base 3 "_law_pick" (toSp X.K 1 ct_law_pick) := cal_law_pick Z
  have c_law_as_bent : Cal X.prog X.w X.K X.mg X.base 9 "_law_as_bent" (toSp X.K 1 ct_law_as_bent) := cal_law_as_bent Z
  have c_is_heap : Cal X.prog X.w X.K X.mg X.base 6 "is_heap" (toSp X.K 0 cta_is_heap) := cala_is_heap Z
  have c_pointed : Cal X.prog X.w X.K X.mg X.base 8 "pointed" (toSp X.K 0 ct_pointed) := cal_pointed Z
  have c_reached : Cal X.prog X.w X.K X.mg X.base 8 "reached" (toSp X.K 0 ct_reached) := cal_reached Z
  have c_seen : Cal X.prog X.w X.K X.mg X.base 8 "seen" (toSp X.K 0 ct_seen) := cal_seen Z
  have m_min : X.mg "min" = none := Z.b_min
  have c_law_draw : Cal X.prog X.w X.K X.mg X.base 2 "_law_draw" (toSp X.K 1 ct_law_draw) := cal_law_draw Z
  have c_law_as_heaps : Cal X.prog X.w X.K X.mg X.base 2 "_law_as_heaps" (toSp X.K 0 ct_law_as_heaps) := cal_law_as_heaps Z
  have c_law_as_odd : Cal X.prog X.w X.K X.mg X.base 4 "_law_as_odd" (toSp X.K 1 ct_law_as_odd) := cal_law_as_odd Z
  have m_isinstance : X.mg "isinstance" = none := Z.b_isinstance
  obtain ⟨C_BadWide, gc_BadWide⟩ : ∃ C : Addr, X.mg "BadWide" = some (.ref C) := Z.c_BadWide
  have m_len : X.mg "len" = none := Z.b_len
  have c_law_as_story : Cal X.prog X.w X.K X.mg X.base 6 "_law_as_story" (toSp X.K 1 ct_law_as_story) := cal_law_as_story Z
  have c_law_k00_is_heap : Cal X.prog X.w X.K X.mg X.base 3 "_law_k00_is_heap" (toSp X.K 0 ct_law_k00_is_heap) := cal_law_k00_is_heap Z
  have c_law_is_truth : Cal X.prog X.w X.K X.mg X.base 1 "_law_is_truth" (toSp X.K 0 ct_law_is_truth) := cal_law_is_truth Z
  obtain ⟨C_BadHeap, gc_BadHeap⟩ : ∃ C : Addr, X.mg "BadHeap" = some (.ref C) := Z.c_BadHeap
  have c_look_alike : Cal X.prog X.w X.K X.mg X.base 9 "look_alike" (toSp X.K 0 ct_look_alike) := cal_look_alike Z
  obtain ⟨hds, hp⟩ := hp
  subst hds
  show WSs X [] (_ :: _) [ some (D.fz (a.map D.int)), none, none, none, none, none, none, none, none, none, none, none, none] _
  have kb_is_heap : KwB X.K X.mg "is_heap" 0 ["value", "wide"] [0, 1] := kwb_of Z.d_is_heap (fun _ _ _ _ _ _ us ws h1 h2 => match us, ws, h1, h2 with | [], [_, _], _, _ => rfl)
  obtain ⟨f_pointed, hm_pointed⟩ : ∃ f, X.mg "pointed" = some (.ref f) := let ⟨f, _, _, hm, _⟩ := Z.d_pointed.ex; ⟨f, hm⟩
  obtain ⟨f_reached, hm_reached⟩ : ∃ f, X.mg "reached" = some (.ref f) := let ⟨f, _, _, hm, _⟩ := Z.d_reached.ex; ⟨f, hm⟩
  obtain ⟨f_seen, hm_seen⟩ : ∃ f, X.mg "seen" = some (.ref f) := let ⟨f, _, _, hm, _⟩ := Z.d_seen.ex; ⟨f, hm⟩
  obtain ⟨f_is_heap, hm_is_heap⟩ : ∃ f, X.mg "is_heap" = some (.ref f) := let ⟨f, _, _, hm, _⟩ := Z.d_is_heap.ex; ⟨f, hm⟩
  walk_at "go"
  refine ⟨a, ⟨rfl, hp⟩, fun d hd => ?_⟩
  obtain ⟨s, rfl, ok⟩ := hd
  walk_at "go"
  refine ws_for PassesOwn.never rfl ?_
  refine wi_range1 (by exact rfl) m_range ?_ (by rfl) (by rfl)
  walk_at "go"
  have hlap : (1 + if (3 : Int) < ((a.map D.int).length : Int) then (3 : Int) else ((a.map D.int).length : Int)).toNat ≤ 4 := by split <;> omega
  generalize (1 + if (3 : Int) < ((a.map D.int).length : Int) then (3 : Int) else ((a.map D.int).length : Int)).toNat = laps at *
  refine ⟨fun j E' => ∃ (s' : Sta) (o2 o3 o4 o5 o6 o7 o8 o9 o10 o11 o12 : Option D), E' = [some (.fz (a.map D.int)), some (sD s'), o2, o3, o4, o5, o6, o7, o8, o9, o10, o11, o12] ∧ SOk (10000 * j) s', ⟨s, _, _, _, _, _, _, _, _, _, _, _, rfl, ok.mono (by simp)⟩, (fun _ _ _ _ p h => nomatch h), ?_, ?_⟩
  · rintro j E' hj ⟨s2, o2, o3, o4, o5, o6, o7, o8, o9, o10, o11, o12, rfl, ok2⟩
    walk_at "go"
    refine ⟨(_, _, _), ⟨rfl, by with_reducible assumption, by dsimp only; (try simp only [ncast]); omega, by dsimp only; omega⟩, ?_⟩
    rintro _ _ ⟨r3, s3, rfl, hr3, hd, oks3⟩
    cases hd
    dsimp only at hr3 oks3
    try simp only [ncast] at hr3
    dsimp only [List.set]
    walk_at "go"
    obtain ⟨w, ew⟩ : ∃ w : Nat, 1 + r3 = w := ⟨(1 + r3).toNat, by omega⟩
    rw [ew]
    walk_at "go"
    refine ⟨(_, _, _), ⟨rfl, by with_reducible assumption, by dsimp only; (try simp only [ncast]); omega, by dsimp only; omega⟩, ?_⟩
    rintro _ _ ⟨r4, s4, rfl, hr4, hd, oks4⟩
    cases hd
    dsimp only at hr4 oks4
    try simp only [ncast] at hr4
    dsimp only [List.set]
    walk_at "go"
    obtain ⟨vn, ev⟩ : ∃ v : Nat, 1 + r4 = v := ⟨(1 + r4).toNat, by omega⟩
    rw [ev]
    refine ⟨(s4, _, w, vn, 5), ⟨rfl, oks4, ⟨by dsimp only; omega, by dsimp only; omega⟩, by dsimp only; omega, by dsimp only; omega, by dsimp only; omega⟩, ?_⟩
    rintro _ _ ⟨ps, s5, rfl, okp, lp, hd, ok5⟩
    cases hd
    dsimp only at okp lp ok5
    walk_at "go"
    have hmul : 5 * vn ≤ 15 := by omega
    obtain ⟨l1, l2⟩ := heas_wf (by omega) (by omega) vn lp okp (by omega)
    refine ⟨(w, 5, ps), ⟨rfl, ⟨by dsimp only; omega, by dsimp only; omega⟩, okp, by dsimp only; omega, by dsimp only; omega⟩, fun d hd => ?_⟩
    have hd : d = .lst ((heas w ps).map heaD) := hd
    subst hd
    have wfs : ∀ h ∈ heas w ps, WfH w h ∧ h.length ≤ 1000 := fun h hh => by
      obtain ⟨i, hi, e⟩ := List.getElem_of_mem hh
      have q := l2 i h (by rw [List.getElem?_eq_getElem hi, e])
      have sl := szs_le vn lp okp i (by omega)
      exact ⟨q.1, by have := q.2; omega⟩
    clear l2
    generalize heas w ps = hs at l1 wfs ⊢
    have imhs : Imms (hs.map heaD) := imms_heas
    walk_at "go"
    refine ⟨(s5, _, .lst (hs.map heaD), hs.map heaD), ⟨rfl, ok5, rfl, imhs, ⟨by dsimp only; rw [List.length_map]; omega, by dsimp only; rw [List.length_map]; omega⟩, by dsimp only; omega⟩, ?_⟩
    rintro d _ ⟨s6, hd, hs6, ok6⟩
    cases hs6
    dsimp only at hd ok6
    obtain ⟨h, hh, rfl⟩ := List.mem_map.mp hd
    obtain ⟨wf, hl⟩ := wfs h hh
    have plh := pln_hea wf hl
    have dph := dep_hea (h := h)
    have imh : Imm (heaD h) := imm_hea
    walk_at "go"
    refine ⟨(s6, _, 1000, heaD h), ⟨rfl, ok6, plh, ⟨by dsimp only; omega, by dsimp only; omega⟩, by dsimp only; omega, by dsimp only; omega⟩, ?_⟩
    rintro b _ ⟨s7, plb, db, hs7, ok7⟩
    cases hs7
    dsimp only at plb db ok7
    have imb : Imm b := plb.imm
    walk_at "go"
    refine ws_for PassesOwn.never rfl ?_
    refine wi_lst ?_
    walk_at "go"
    refine ⟨(s7, _, 1001, b), ⟨rfl, ok7, plb, ⟨by dsimp only; omega, by dsimp only; omega⟩, by dsimp only; omega, by dsimp only; omega⟩, ?_⟩
    rintro b2 _ ⟨s8, plb2, db2, hs8, ok8⟩
    cases hs8
    dsimp only at plb2 db2 ok8
    have imb2 : Imm b2 := plb2.imm
    walk_at "go"
    refine ⟨(s8, _, 1000, heaD h), ⟨rfl, ok8, plh, ⟨by dsimp only; omega, by dsimp only; omega⟩, by dsimp only; omega, by dsimp only; omega⟩, ?_⟩
    rintro b3 _ ⟨s9, plb3, db3, hs9, ok9⟩
    cases hs9
    dsimp only at plb3 db3 ok9
    have imb3 : Imm b3 := plb3.imm
    walk_at "go"
    refine ⟨(s9, _), ⟨rfl, ok9, by dsimp only; omega⟩, ?_⟩
    rintro od _ ⟨s10, hod, hs10, ok10⟩
    cases hs10
    dsimp only at hod ok10
    have plo : Pln 2 od := plns_iff.mp odds_pln od hod
    have imo : Imm od := plo.imm
    walk_at "go"
    have plv : ∀ d ∈ [heaD h, b, b2, b3, od], Pln 1002 d := by
      intro d hd
      simp only [List.mem_cons, List.not_mem_nil, or_false] at hd
      rcases hd with rfl | rfl | rfl | rfl | rfl
      · exact plh.mono (by omega)
      · exact plb.mono (by omega)
      · exact plb2.mono (by omega)
      · exact plb3.mono (by omega)
      · exact plo.mono (by omega)
    refine ⟨⟨imh, imb, imb2, imb3, imo, trivial⟩, ?_⟩
    generalize hvs : [heaD h, b, b2, b3, od] = vs at plv
    have lvs : vs.length = 5 := by rw [← hvs]; rfl
    refine ⟨fun i E' => ∃ (s' : Sta) (p6 p9 p10 p11 p12 : Option D), SOk (10000 * j + 5000 + 20 * i) s' ∧ E' = [some (.fz (a.map D.int)), some (sD s'), some (.int (0 + (j : Int))), some (.int (w : Int)), some (heaD h), some b, p6, o7, o8, p9, p10, p11, p12], ⟨s10, _, _, _, _, _, ok10.mono (by omega), rfl⟩, (fun _ _ _ _ p h => nomatch h), ?_, ?_⟩
    · rintro i E' hi ⟨s11, p6, p9, p10, p11, p12, ok11, rfl⟩
      have hi5 : i < vs.length := hi
      have hi6 : i < 5 := by omega
      have pv := plv _ (List.getElem_mem hi5)
      show WG _ _ _ (vs.getD i .non) _ _
      rw [show vs.getD i .non = vs[i] from by rw [List.getD_eq_getElem?_getD, List.getElem?_eq_getElem hi5]; rfl]
      generalize vs[i] = v at pv
      have imv : Imm v := pv.imm
      walk_at "go"
      refine ws_for PassesOwn.never rfl ?_
      refine wi_lst ?_
      walk_at "go"
      refine ⟨(_, _, _), ⟨rfl, by with_reducible assumption, by dsimp only; (try simp only [ncast]); omega, by dsimp only; omega⟩, ?_⟩
      rintro _ _ ⟨r5, s12, rfl, hr5, hd, oks12⟩
      cases hd
      dsimp only at hr5 oks12
      try simp only [ncast] at hr5
      dsimp only [List.set]
      walk_at "go"
      refine ⟨⟨trivial, trivial, trivial⟩, ?_⟩
      refine ⟨fun i2 E' => ∃ (s' : Sta) (p9 p10 p11 p12 : Option D), SOk (10000 * j + 5000 + 20 * i + 2 + 4 * i2) s' ∧ E' = [some (.fz (a.map D.int)), some (sD s'), some (.int (0 + (j : Int))), some (.int (w : Int)), some (heaD h), some b, some v, o7, o8, p9, p10, p11, p12], ⟨s12, _, _, _, _, oks12.mono (by omega), rfl⟩, (fun _ _ _ _ p h => nomatch h), ?_, ?_⟩
      · rintro i2 E' hi2 ⟨s13, q9, q10, q11, q12, ok13, rfl⟩
        have hi2 : i2 < 2 := hi2
        obtain ⟨m, em, m1, m6⟩ : ∃ m : Nat, [D.int (w : Int), D.int (1 + r5)].getD i2 .non = .int m ∧ 1 ≤ m ∧ m ≤ 6 := by
          rcases i2 with _ | _ | i2
          · exact ⟨w, rfl, by omega, by omega⟩
          · exact ⟨(1 + r5).toNat, congrArg D.int (by omega), by omega, by omega⟩
          · omega
        show WG _ _ _ ([D.int (w : Int), D.int (1 + r5)].getD i2 .non) _ _
        rw [em]
        clear em
        walk_at "go"
        refine ⟨(v, m), ⟨rfl, ⟨1002, by omega, pv⟩, m1, m6⟩, fun d hd => ?_⟩
        have hd : d = .bl (isHea v m) := hd
        subst hd
        walk_at "go"
        refine' wo_k0 (S := cta_is_heap) (ks := ["value", "wide"]) (pm := [0, 1]) ?h1 ?h2 ?h3 ?h4 ?h5 ?_ ?h7 ?h8 ?h9 ?h10
        case h1 => exact cala_is_heap Z
        case h2 => exact kb_is_heap
        case h3 => exact hR
        case h4 => decide
        case h5 => rfl
        case h7 => rfl
        case h8 => rfl
        case h9 => decide
        case h10 => rfl
        walk_at "go"
        refine ⟨⟨imv, trivial, trivial⟩, rfl, (v, m), ⟨rfl, ⟨1002, by omega, pv⟩, m1, m6⟩, fun d hd => ?_⟩
        have hd : d = .bl (isHea v m) := hd
        subst hd
        walk_at "go"
        refine ⟨(isHea v m, isHea v m), ⟨rfl, trivial⟩, fun d hd => ?_⟩
        have hd : d = .bl (decide (isHea v m = isHea v m)) := hd
        rw [decide_eq_true rfl] at hd
        subst hd
        cases hq : isHea v m with
        | true =>
          walk_at "go"
          exact ⟨s13, _, _, _, _, ok13.mono (by omega), rfl⟩
        | false =>
          walk_at "go"
          refine ⟨(s13, _, .lst [.op (.ref f_pointed), .op (.ref f_reached), .op (.ref f_seen)], [.op (.ref f_pointed), .op (.ref f_reached), .op (.ref f_seen)]), ⟨rfl, ok13, rfl, ⟨trivial, trivial, trivial, trivial⟩, ⟨Nat.le_of_ble_eq_true rfl, Nat.le_of_ble_eq_true rfl⟩, by dsimp only; omega⟩, ?_⟩
          rintro wk _ ⟨s14, hwk, hs14, ok14⟩
          cases hs14
          dsimp only at hwk ok14
          simp only [List.mem_cons, List.not_mem_nil, or_false] at hwk
          have imwk : Imm wk := by rcases hwk with rfl | rfl | rfl <;> trivial
          walk_at "go"
          refine' wo_caughtK (bs := [false, false, false, false, false, false, true, false, false, true, true, false, false]) (cls := "BadHeap") (CE := CE) (Ng := []) (kb := 13) Z.d_law_caught hCE sc_law_caught ?hG ?hva lam hR ?hj (by exact rfl) ?hL ?fx ?msk ?hdef ?hbind ?hbody ?hgo
          case hG => exact fun g cdg => caught_gives rfl rfl rfl rfl hCE
          case hva => exact .inl rfl
          case hj => decide
          case hL => exact (show LamX.lamSB (defScope s_law) _ = true from by decide +kernel)
          case fx => exact Z.x_BadHeap
          case msk => (dsimp only [keepE, List.set]; repeat first | exact .nil | refine .so (by walk_at "imm") ?_ | refine .no ?_)
          case hdef => rfl
          case hbind => exact fun q cl pm cv ctv => rfl
          case hbody =>
            intro A' outer' s' H' Ec f' c' hr' Y
            have hNdY : Y.N.Nodup := hNd
            have hNY0 : Y.N[0]? = some ("script" : Str) := rfl
            have hNY1 : Y.N[1]? = some ("state" : Str) := rfl
            have hNY2 : Y.N[2]? = some ("lap" : Str) := rfl
            have hNY3 : Y.N[3]? = some ("wide" : Str) := rfl
            have hNY4 : Y.N[4]? = some ("heap_here" : Str) := rfl
            have hNY5 : Y.N[5]? = some ("bent" : Str) := rfl
            have hNY6 : Y.N[6]? = some ("value" : Str) := rfl
            have hNY7 : Y.N[7]? = some ("odd" : Str) := rfl
            have hNY8 : Y.N[8]? = some ("works" : Str) := rfl
            have hNY9 : Y.N[9]? = some ("work" : Str) := rfl
            have hNY10 : Y.N[10]? = some ("many" : Str) := rfl
            have hNY11 : Y.N[11]? = some ("due" : Str) := rfl
            have hNY12 : Y.N[12]? = some ("caught" : Str) := rfl
            have hRY : Room 13 Y.A := hr'
            have hu64Y : Y.A.units + 64 < cLine := by have := hRY.un; omega
            have hu1Y : Y.A.units + 1 < cLine := by have := hRY.un; omega
            dsimp only [keepE]
            rcases hwk with rfl | rfl | rfl
            · refine wx_callL (S := ctx_pointed_heap) (calx_pointed_heap Z) hm_pointed hRY (by decide) hNY9 rfl ?_
              walk_at "go"
              exact ⟨(v, m), rfl, ⟨1002, by omega, pv⟩, ⟨m1, m6⟩, hq⟩
            · refine wx_callL (S := ctx_reached_heap) (calx_reached_heap Z) hm_reached hRY (by decide) hNY9 rfl ?_
              walk_at "go"
              exact ⟨(v, m), rfl, ⟨1002, by omega, pv⟩, ⟨m1, m6⟩, hq⟩
            · refine wx_callL (S := ctx_seen_heap) (calx_seen_heap Z) hm_seen hRY (by decide) hNY9 rfl ?_
              walk_at "go"
              exact ⟨(v, m), rfl, ⟨1002, by omega, pv⟩, ⟨m1, m6⟩, hq⟩
          case hgo =>
          intro C0 hC0
          walk_at "go"
          refine ⟨C0, C0, true, rfl, rfl, Z.y_BadHeap C0 hC0, kit_self, ?_⟩
          by_cases hqw : isHea v w = true
          · obtain ⟨h2, rfl, wf2⟩ := hea_of pv (by omega) (by omega) (by omega) hqw
            walk_at "go"
            refine' wo_calmK (bs := [false, false, false, true, true, false, true, false, false, false, false, false, false]) (CE := CE) (Ng := []) (kb := 13) Z.d_law_caught hCE sc_law_caught ?hG ?hva lam hR ?hj (by exact rfl) ?hL ?msk ?hdef ?hbind ?hbody ?hgo
            case hG => exact fun g cdg => caught_gives rfl rfl rfl rfl hCE
            case hva => exact .inl rfl
            case hj => decide
            case hL => exact (show LamX.lamSB (defScope s_law) _ = true from by decide +kernel)
            case msk => (dsimp only [keepE, List.set]; repeat first | exact .nil | refine .so (by walk_at "imm") ?_ | refine .no ?_)
            case hdef => rfl
            case hbind => exact fun q cl pm cv ctv => rfl
            case hbody =>
              intro A' outer' s' H' Ec f' c' hr' Y
              have hNdY : Y.N.Nodup := hNd
              have hNY0 : Y.N[0]? = some ("script" : Str) := rfl
              have hNY1 : Y.N[1]? = some ("state" : Str) := rfl
              have hNY2 : Y.N[2]? = some ("lap" : Str) := rfl
              have hNY3 : Y.N[3]? = some ("wide" : Str) := rfl
              have hNY4 : Y.N[4]? = some ("heap_here" : Str) := rfl
              have hNY5 : Y.N[5]? = some ("bent" : Str) := rfl
              have hNY6 : Y.N[6]? = some ("value" : Str) := rfl
              have hNY7 : Y.N[7]? = some ("odd" : Str) := rfl
              have hNY8 : Y.N[8]? = some ("works" : Str) := rfl
              have hNY9 : Y.N[9]? = some ("work" : Str) := rfl
              have hNY10 : Y.N[10]? = some ("many" : Str) := rfl
              have hNY11 : Y.N[11]? = some ("due" : Str) := rfl
              have hNY12 : Y.N[12]? = some ("caught" : Str) := rfl
              have hRY : Room 13 Y.A := hr'
              have hu64Y : Y.A.units + 64 < cLine := by have := hRY.un; omega
              have hu1Y : Y.A.units + 1 < cLine := by have := hRY.un; omega
              dsimp only [keepE]
              refine wo_c0 (S := ct_look_alike) (cal_look_alike Z) hRY (by decide) (by exact rfl) ?_
              walk_at "go"
              exact ⟨(h, h2, w), ⟨rfl, wf, wf2⟩, fun _ _ => trivial⟩
            case hgo =>
            have hne : ¬ ((m : Int) = (w : Int)) := by
              intro e
              have e : m = w := by omega
              rw [e, hqw] at hq
              exact absurd hq (by decide)
            walk_at "go"
            exact ⟨s14, _, _, _, _, ok14.mono (by omega), rfl⟩
          · have hqw : isHea v w = false := by simpa using hqw
            walk_at "go"
            refine' wo_caughtK (bs := [false, false, false, true, true, false, true, false, false, false, false, false, false]) (cls := "BadHeap") (CE := CE) (Ng := []) (kb := 13) Z.d_law_caught hCE sc_law_caught ?hG ?hva lam hR ?hj (by exact rfl) ?hL ?fx ?msk ?hdef ?hbind ?hbody ?hgo
            case hG => exact fun g cdg => caught_gives rfl rfl rfl rfl hCE
            case hva => exact .inl rfl
            case hj => decide
            case hL => exact (show LamX.lamSB (defScope s_law) _ = true from by decide +kernel)
            case fx => exact Z.x_BadHeap
            case msk => (dsimp only [keepE, List.set]; repeat first | exact .nil | refine .so (by walk_at "imm") ?_ | refine .no ?_)
            case hdef => rfl
            case hbind => exact fun q cl pm cv ctv => rfl
            case hbody =>
              intro A' outer' s' H' Ec f' c' hr' Y
              have hNdY : Y.N.Nodup := hNd
              have hNY0 : Y.N[0]? = some ("script" : Str) := rfl
              have hNY1 : Y.N[1]? = some ("state" : Str) := rfl
              have hNY2 : Y.N[2]? = some ("lap" : Str) := rfl
              have hNY3 : Y.N[3]? = some ("wide" : Str) := rfl
              have hNY4 : Y.N[4]? = some ("heap_here" : Str) := rfl
              have hNY5 : Y.N[5]? = some ("bent" : Str) := rfl
              have hNY6 : Y.N[6]? = some ("value" : Str) := rfl
              have hNY7 : Y.N[7]? = some ("odd" : Str) := rfl
              have hNY8 : Y.N[8]? = some ("works" : Str) := rfl
              have hNY9 : Y.N[9]? = some ("work" : Str) := rfl
              have hNY10 : Y.N[10]? = some ("many" : Str) := rfl
              have hNY11 : Y.N[11]? = some ("due" : Str) := rfl
              have hNY12 : Y.N[12]? = some ("caught" : Str) := rfl
              have hRY : Room 13 Y.A := hr'
              have hu64Y : Y.A.units + 64 < cLine := by have := hRY.un; omega
              have hu1Y : Y.A.units + 1 < cLine := by have := hRY.un; omega
              dsimp only [keepE]
              refine wx_call (S := ctx_look_alike_heap) (calx_look_alike_heap Z) hRY (by decide) (by exact rfl) ?_
              walk_at "go"
              exact ⟨(h, v, w), rfl, wf, ⟨1002, by omega, pv⟩, hqw⟩
            case hgo =>
            intro C1 hC1
            walk_at "go"
            refine ⟨fun hmw => ?_, fun hmw => ?_⟩
            · walk_at "go"
              refine ⟨C1, C1, true, rfl, rfl, Z.y_BadHeap C1 hC1, kit_self, ?_⟩
              walk_at "go"
              exact ⟨s14, _, _, _, _, ok14.mono (by omega), rfl⟩
            · walk_at "go"
              exact ⟨s14, _, _, _, _, ok14.mono (by omega), rfl⟩
      · rintro E' ⟨s13, q9, q10, q11, q12, ok13, rfl⟩
        exact ⟨s13, _, _, _, _, _, ok13.mono (by simp only [List.length_cons, List.length_nil]; push_cast; omega), rfl⟩
    · rintro E' ⟨s11, p6, p9, p10, p11, p12, ok11, rfl⟩
      walk_at "go"
      rw [ten18]
      refine ⟨(s11, _, .lst owdV, owdV), ⟨rfl, ok11, rfl, ⟨trivial, trivial, trivial, trivial, trivial, trivial, ⟨trivial, trivial⟩, trivial, trivial⟩, ⟨Nat.le_of_ble_eq_true rfl, Nat.le_of_ble_eq_true rfl⟩, by dsimp only; omega⟩, ?_⟩
      rintro ow _ ⟨s12, how, hs12, ok12⟩
      cases hs12
      dsimp only at how ok12
      have plw := owd_pln how
      have now := owd_no how
      have imow : Imm ow := plw.imm
      refine ⟨_, rfl, Nat.le_of_ble_eq_true rfl, ?_⟩
      dsimp only [List.set]
      show WSs _ _ _ _ _
      refine wss_cut (fun E' => E' = [some (.fz (a.map D.int)), some (sD s12), some (.int (0 + (j : Int))), some (.int (w : Int)), some (heaD h), some b, p6, some ow, some (.fz [.op (.ref f_is_heap), .op (.ref f_pointed), .op (.ref f_reached), .op (.ref f_seen)]), p9, p10, p11, p12]) ?_ ?_
      · walk_at "d"
        refine wo_lstF ?_
        walk_at "go"
        refine ⟨⟨trivial, trivial, trivial, trivial, trivial⟩, ?_⟩
        walk_at "go"
      rintro E' rfl
      walk_at "go"
      refine ⟨(s12, _, .fz [.op (.ref f_is_heap), .op (.ref f_pointed), .op (.ref f_reached), .op (.ref f_seen)], _), ⟨rfl, ok12, rfl, ⟨trivial, trivial, trivial, trivial, trivial⟩, ⟨Nat.le_of_ble_eq_true rfl, Nat.le_of_ble_eq_true rfl⟩, by dsimp only; omega⟩, ?_⟩
      rintro wk _ ⟨s14, hwk, hs14, ok14⟩
      cases hs14
      dsimp only at hwk ok14
      simp only [List.mem_cons, List.not_mem_nil, or_false] at hwk
      have imwk : Imm wk := by rcases hwk with rfl | rfl | rfl | rfl <;> trivial
      walk_at "go"
      refine' wo_caughtK (bs := [false, false, false, false, false, true, false, true, false, true, false, false, false]) (cls := "BadWide") (CE := CE) (Ng := []) (kb := 13) Z.d_law_caught hCE sc_law_caught ?hG ?hva lam hR ?hj (by exact rfl) ?hL ?fx ?msk ?hdef ?hbind ?hbody ?hgo
      case hG => exact fun g cdg => caught_gives rfl rfl rfl rfl hCE
      case hva => exact .inl rfl
      case hj => decide
      case hL => exact (show LamX.lamSB (defScope s_law) _ = true from by decide +kernel)
      case fx => exact Z.x_BadWide
      case msk => (dsimp only [keepE, List.set]; repeat first | exact .nil | refine .so (by walk_at "imm") ?_ | refine .no ?_)
      case hdef => rfl
      case hbind => exact fun q cl pm cv ctv => rfl
      case hbody =>
        intro A' outer' s' H' Ec f' c' hr' Y
        have hNdY : Y.N.Nodup := hNd
        have hNY0 : Y.N[0]? = some ("script" : Str) := rfl
        have hNY1 : Y.N[1]? = some ("state" : Str) := rfl
        have hNY2 : Y.N[2]? = some ("lap" : Str) := rfl
        have hNY3 : Y.N[3]? = some ("wide" : Str) := rfl
        have hNY4 : Y.N[4]? = some ("heap_here" : Str) := rfl
        have hNY5 : Y.N[5]? = some ("bent" : Str) := rfl
        have hNY6 : Y.N[6]? = some ("value" : Str) := rfl
        have hNY7 : Y.N[7]? = some ("odd" : Str) := rfl
        have hNY8 : Y.N[8]? = some ("works" : Str) := rfl
        have hNY9 : Y.N[9]? = some ("work" : Str) := rfl
        have hNY10 : Y.N[10]? = some ("many" : Str) := rfl
        have hNY11 : Y.N[11]? = some ("due" : Str) := rfl
        have hNY12 : Y.N[12]? = some ("caught" : Str) := rfl
        have hRY : Room 13 Y.A := hr'
        have hu64Y : Y.A.units + 64 < cLine := by have := hRY.un; omega
        have hu1Y : Y.A.units + 1 < cLine := by have := hRY.un; omega
        dsimp only [keepE]
        rcases hwk with rfl | rfl | rfl | rfl
        · refine wx_callL (S := ctx_is_heap_wide) (calx_is_heap_wide Z) hm_is_heap hRY (by decide) hNY9 rfl ?_
          walk_at "go"
          exact ⟨(b, ow), rfl, imb, ⟨2, plw⟩, now⟩
        · refine wx_callL (S := ctx_pointed_wide) (calx_pointed_wide Z) hm_pointed hRY (by decide) hNY9 rfl ?_
          walk_at "go"
          exact ⟨(b, ow), rfl, imb, ⟨2, plw⟩, now⟩
        · refine wx_callL (S := ctx_reached_wide) (calx_reached_wide Z) hm_reached hRY (by decide) hNY9 rfl ?_
          walk_at "go"
          exact ⟨(b, ow), rfl, imb, ⟨2, plw⟩, now⟩
        · refine wx_callL (S := ctx_seen_wide) (calx_seen_wide Z) hm_seen hRY (by decide) hNY9 rfl ?_
          walk_at "go"
          exact ⟨(b, ow), rfl, imb, ⟨2, plw⟩, now⟩
      case hgo =>
      intro C0 hC0
      walk_at "go"
      refine ⟨C0, C0, true, rfl, rfl, Z.y_BadWide C0 hC0, kit_self, ?_⟩
      walk_at "go"
      refine' wo_caughtK (bs := [false, false, false, false, false, false, false, true, false, false, false, false, false]) (cls := "BadWide") (CE := CE) (Ng := []) (kb := 13) Z.d_law_caught hCE sc_law_caught ?hG ?hva lam hR ?hj (by exact rfl) ?hL ?fx ?msk ?hdef ?hbind ?hbody ?hgo
      case hG => exact fun g cdg => caught_gives rfl rfl rfl rfl hCE
      case hva => exact .inl rfl
      case hj => decide
      case hL => exact (show LamX.lamSB (defScope s_law) _ = true from by decide +kernel)
      case fx => exact Z.x_BadWide
      case msk => (dsimp only [keepE, List.set]; repeat first | exact .nil | refine .so (by walk_at "imm") ?_ | refine .no ?_)
      case hdef => rfl
      case hbind => exact fun q cl pm cv ctv => rfl
      case hbody =>
        intro A' outer' s' H' Ec f' c' hr' Y
        have hNdY : Y.N.Nodup := hNd
        have hNY0 : Y.N[0]? = some ("script" : Str) := rfl
        have hNY1 : Y.N[1]? = some ("state" : Str) := rfl
        have hNY2 : Y.N[2]? = some ("lap" : Str) := rfl
        have hNY3 : Y.N[3]? = some ("wide" : Str) := rfl
        have hNY4 : Y.N[4]? = some ("heap_here" : Str) := rfl
        have hNY5 : Y.N[5]? = some ("bent" : Str) := rfl
        have hNY6 : Y.N[6]? = some ("value" : Str) := rfl
        have hNY7 : Y.N[7]? = some ("odd" : Str) := rfl
        have hNY8 : Y.N[8]? = some ("works" : Str) := rfl
        have hNY9 : Y.N[9]? = some ("work" : Str) := rfl
        have hNY10 : Y.N[10]? = some ("many" : Str) := rfl
        have hNY11 : Y.N[11]? = some ("due" : Str) := rfl
        have hNY12 : Y.N[12]? = some ("caught" : Str) := rfl
        have hRY : Room 13 Y.A := hr'
        have hu64Y : Y.A.units + 64 < cLine := by have := hRY.un; omega
        have hu1Y : Y.A.units + 1 < cLine := by have := hRY.un; omega
        dsimp only [keepE]
        refine wx_call (S := ctx_look_alike_wide) (calx_look_alike_wide Z) hRY (by decide) (by exact rfl) ?_
        walk_at "go"
        exact ⟨(.non, .non, ow), rfl, trivial, trivial, ⟨2, plw⟩, now⟩
      case hgo =>
      intro C1 hC1
      walk_at "go"
      refine ⟨C1, C1, true, rfl, rfl, Z.y_BadWide C1 hC1, kit_self, ?_⟩
      walk_at "go"
      exact ⟨s14, _, _, _, _, _, _, _, _, _, _, _, rfl, ok14.mono (by push_cast; omega)⟩
  · rintro E' ⟨s2, o2, o3, o4, o5, o6, o7, o8, o9, o10, o11, o12, rfl, ok2⟩
    walk_at "go"
    exact ⟨[], rfl, rfl⟩
end
end
end K00
namespace K00
open PySem PySem.Spec L2 DL Ln
open PyProof.Rows (envOfC)


open PyProof.Rows
def dd_is_whole : He.DefD := ⟨("is_whole", none), "is_whole", "is_whole", defArgs s_is_whole, defBody s_is_whole, defScope s_is_whole, [], []⟩
def dd_is_number : He.DefD := ⟨("is_number", none), "is_number", "is_number", defArgs s_is_number, defBody s_is_number, defScope s_is_number, [], []⟩
def dd_is_wide : He.DefD := ⟨("is_wide", none), "is_wide", "is_wide", defArgs s_is_wide, defBody s_is_wide, defScope s_is_wide, [], []⟩
def dd_need_wide : He.DefD := ⟨("need_wide", none), "need_wide", "need_wide", defArgs s_need_wide, defBody s_need_wide, defScope s_need_wide, [], []⟩
def dd_is_pointer : He.DefD := ⟨("is_pointer", none), "is_pointer", "is_pointer", defArgs s_is_pointer, defBody s_is_pointer, defScope s_is_pointer, [], []⟩
def dd_is_value : He.DefD := ⟨("is_value", none), "is_value", "is_value", defArgs s_is_value, defBody s_is_value, defScope s_is_value, [], []⟩
def dd_is_record : He.DefD := ⟨("is_record", none), "is_record", "is_record", defArgs s_is_record, defBody s_is_record, defScope s_is_record, [], []⟩
def dd_is_heap : He.DefD := ⟨("is_heap", none), "is_heap", "is_heap", defArgs s_is_heap, defBody s_is_heap, defScope s_is_heap, [], []⟩
def dd_need_heap : He.DefD := ⟨("need_heap", none), "need_heap", "need_heap", defArgs s_need_heap, defBody s_need_heap, defScope s_need_heap, [], []⟩
def dd_pointed : He.DefD := ⟨("pointed", none), "pointed", "pointed", defArgs s_pointed, defBody s_pointed, defScope s_pointed, [], []⟩
def dd_met : He.DefD := ⟨("met", none), "met", "met", defArgs s_met, defBody s_met, defScope s_met, [], []⟩
def dd_reached : He.DefD := ⟨("reached", none), "reached", "reached", defArgs s_reached, defBody s_reached, defScope s_reached, [], []⟩
def dd_seen : He.DefD := ⟨("seen", none), "seen", "seen", defArgs s_seen, defBody s_seen, defScope s_seen, [], []⟩
def dd_look_alike : He.DefD := ⟨("look_alike", none), "look_alike", "look_alike", defArgs s_look_alike, defBody s_look_alike, defScope s_look_alike, [], []⟩
def dd_law_begun : He.DefD := ⟨("_law_begun", none), "_law_begun", "_law_begun", defArgs s_law_begun, defBody s_law_begun, defScope s_law_begun, [], []⟩
def dd_law_blended : He.DefD := ⟨("_law_blended", none), "_law_blended", "_law_blended", defArgs s_law_blended, defBody s_law_blended, defScope s_law_blended, [], []⟩
def dd_law_draw : He.DefD := ⟨("_law_draw", none), "_law_draw", "_law_draw", defArgs s_law_draw, defBody s_law_draw, defScope s_law_draw, [], []⟩
def dd_law_pick : He.DefD := ⟨("_law_pick", none), "_law_pick", "_law_pick", defArgs s_law_pick, defBody s_law_pick, defScope s_law_pick, [], []⟩
def dd_law_caught : He.DefD := ⟨("_law_caught", none), "_law_caught", "_law_caught", defArgs s_law_caught, defBody s_law_caught, defScope s_law_caught, [], []⟩
def dd_law_is_truth : He.DefD := ⟨("_law_is_truth", none), "_law_is_truth", "_law_is_truth", defArgs s_law_is_truth, defBody s_law_is_truth, defScope s_law_is_truth, [], []⟩
def dd_law_is_whole : He.DefD := ⟨("_law_is_whole", none), "_law_is_whole", "_law_is_whole", defArgs s_law_is_whole, defBody s_law_is_whole, defScope s_law_is_whole, [], []⟩
def dd_law_as_value : He.DefD := ⟨("_law_as_value", none), "_law_as_value", "_law_as_value", defArgs s_law_as_value, defBody s_law_as_value, defScope s_law_as_value, [], []⟩
def dd_law_as_deed : He.DefD := ⟨("_law_as_deed", none), "_law_as_deed", "_law_as_deed", defArgs s_law_as_deed, defBody s_law_as_deed, defScope s_law_as_deed, [], []⟩
def dd_law_as_story : He.DefD := ⟨("_law_as_story", none), "_law_as_story", "_law_as_story", defArgs s_law_as_story, defBody s_law_as_story, defScope s_law_as_story, [], []⟩
def dd_law_as_done : He.DefD := ⟨("_law_as_done", none), "_law_as_done", "_law_as_done", defArgs s_law_as_done, defBody s_law_as_done, defScope s_law_as_done, [], []⟩
def dd_law_as_heaps : He.DefD := ⟨("_law_as_heaps", none), "_law_as_heaps", "_law_as_heaps", defArgs s_law_as_heaps, defBody s_law_as_heaps, defScope s_law_as_heaps, [], []⟩
def dd_law_as_odd : He.DefD := ⟨("_law_as_odd", none), "_law_as_odd", "_law_as_odd", defArgs s_law_as_odd, defBody s_law_as_odd, defScope s_law_as_odd, [], []⟩
def dd_law_as_bent : He.DefD := ⟨("_law_as_bent", none), "_law_as_bent", "_law_as_bent", defArgs s_law_as_bent, defBody s_law_as_bent, defScope s_law_as_bent, [], []⟩
def dd_law_k00_is_value : He.DefD := ⟨("_law_k00_is_value", none), "_law_k00_is_value", "_law_k00_is_value", defArgs s_law_k00_is_value, defBody s_law_k00_is_value, defScope s_law_k00_is_value, [], []⟩
def dd_law_k00_is_heap : He.DefD := ⟨("_law_k00_is_heap", none), "_law_k00_is_heap", "_law_k00_is_heap", defArgs s_law_k00_is_heap, defBody s_law_k00_is_heap, defScope s_law_k00_is_heap, [], []⟩
def dd_law : He.DefD := ⟨("law", none), "law", "law", defArgs s_law, defBody s_law, defScope s_law, [], []⟩
def fnL : List He.DefD := [dd_is_whole, dd_is_number, dd_is_wide, dd_need_wide, dd_is_pointer, dd_is_value, dd_is_record, dd_is_heap, dd_need_heap, dd_pointed, dd_met, dd_reached, dd_seen, dd_look_alike, dd_law_begun, dd_law_blended, dd_law_draw, dd_law_pick, dd_law_caught, dd_law_is_truth, dd_law_is_whole, dd_law_as_value, dd_law_as_deed, dd_law_as_story, dd_law_as_done, dd_law_as_heaps, dd_law_as_odd, dd_law_as_bent, dd_law_k00_is_value, dd_law_k00_is_heap, dd_law]
def faL : List He.Fa := ([.glo "is_whole", .glo "is_number", .glo "is_wide", .glo "need_wide", .glo "is_pointer", .glo "is_value", .glo "is_record", .glo "is_heap", .glo "need_heap", .glo "pointed", .glo "met", .glo "reached"] : List He.Fa) ++ ([.glo "seen", .glo "look_alike", .glo "_law_begun", .glo "_law_blended", .glo "_law_draw", .glo "_law_pick", .glo "_law_caught", .glo "_law_is_truth", .glo "_law_is_whole", .glo "_law_as_value", .glo "_law_as_deed", .glo "_law_as_story"] : List He.Fa) ++ ([.glo "_law_as_done", .glo "_law_as_heaps", .glo "_law_as_odd", .glo "_law_as_bent", .glo "_law_k00_is_value", .glo "_law_k00_is_heap", .glo "law", .free "abs", .free "all", .free "bool", .free "enumerate", .free "int"] : List He.Fa) ++ ([.free "isinstance", .free "len", .free "list", .free "min", .free "range", .free "sorted", .free "str", .free "tuple", .int "MOST_NUMBER" G_MOST_NUMBER, .int "MOST_WIDE" G_MOST_WIDE, .glo "CopyError", .glo "BadHeap"] : List He.Fa) ++ ([.exc "BadHeap", .exm "BadHeap" "CopyError" true, .glo "BadWide", .exc "BadWide", .exm "BadWide" "CopyError" true] : List He.Fa)
def looseL : List Str := (["CopyError", "BadHeap", "BadWide", "MOST_NUMBER", "MOST_WIDE", "is_whole", "is_number", "is_wide", "need_wide", "is_pointer", "is_value", "is_record"] : List Str) ++ (["is_heap", "need_heap", "pointed", "met", "reached", "seen", "look_alike", "_law_begun", "_law_blended", "_law_draw", "_law_pick", "_law_caught"] : List Str) ++ (["_law_is_truth", "_law_is_whole", "_law_as_value", "_law_as_deed", "_law_as_story", "_law_as_done", "_law_as_heaps", "_law_as_odd", "_law_as_bent", "_law_k00_is_value", "_law_k00_is_heap"] : List Str)
instance lamT0 : LamT := ⟨[], fun _ => 0⟩
def clsL : List Str := ["BadHeap", "BadWide"]
def tfL : List He.Defn := [("law", none)]
def exL (K : PySem.W.Frag) : Bool := ndB K tfL && clsL.all fun x => excB K x
abbrev RR : PySem.W.OpenRow := PySem.W.OpenLaw.row PySem.Challenge.rw_asifcopied_k00_heaps_judged
abbrev hkL : PySem.W.Hook := He.hookX 5 faL fnL [] tfL exL
def obL (s : PySem.W.SharedT) : He.AlX := He.obsX 5 faL fnL [] tfL exL (HandSHeadRun.getT s)
theorem obL_eq (s : PySem.W.SharedT) : obL s = hkL.obs s.abs := He.obsX_eq (HandSHeadRun.getT_eq s)
theorem runL (w : World) : HandSHeadRun.RunEq RR (PySem.W.view RR.prog [39]) hkL obL 4000 looseL w := by
  intro os
  kernel_rfl
theorem fzL {K : PySem.W.Frag} {h : Heap} {w : World} {mg : Str → Option Value} (X : K.In h) (G : h.Ns mainGlobals mg) (cx : He.SaysX faL fnL [] tfL exL w h K) : Fz K mg :=
  have c : He.SaysD faL fnL K := cx.t.d
  { 
    d_is_whole := by
      obtain ⟨fd, F⟩ := c.def_ 0 (d := dd_is_whole) rfl
      exact ⟨_, fd, F, He.glo_ok X G (c.fact 0 (f := .glo "is_whole") rfl), F.bindsN fun _ _ _ _ _ _ us hl => match us, hl with | [_], _ => rfl⟩
    d_is_number := by
      obtain ⟨fd, F⟩ := c.def_ 1 (d := dd_is_number) rfl
      exact ⟨_, fd, F, He.glo_ok X G (c.fact 1 (f := .glo "is_number") rfl), F.bindsN fun _ _ _ _ _ _ us hl => match us, hl with | [_, _], _ => rfl⟩
    d_is_wide := by
      obtain ⟨fd, F⟩ := c.def_ 2 (d := dd_is_wide) rfl
      exact ⟨_, fd, F, He.glo_ok X G (c.fact 2 (f := .glo "is_wide") rfl), F.bindsN fun _ _ _ _ _ _ us hl => match us, hl with | [_], _ => rfl⟩
    d_need_wide := by
      obtain ⟨fd, F⟩ := c.def_ 3 (d := dd_need_wide) rfl
      exact ⟨_, fd, F, He.glo_ok X G (c.fact 3 (f := .glo "need_wide") rfl), F.bindsN fun _ _ _ _ _ _ us hl => match us, hl with | [_], _ => rfl⟩
    d_is_pointer := by
      obtain ⟨fd, F⟩ := c.def_ 4 (d := dd_is_pointer) rfl
      exact ⟨_, fd, F, He.glo_ok X G (c.fact 4 (f := .glo "is_pointer") rfl), F.bindsN fun _ _ _ _ _ _ us hl => match us, hl with | [_], _ => rfl⟩
    d_is_value := by
      obtain ⟨fd, F⟩ := c.def_ 5 (d := dd_is_value) rfl
      exact ⟨_, fd, F, He.glo_ok X G (c.fact 5 (f := .glo "is_value") rfl), F.bindsN fun _ _ _ _ _ _ us hl => match us, hl with | [_, _], _ => rfl⟩
    d_is_record := by
      obtain ⟨fd, F⟩ := c.def_ 6 (d := dd_is_record) rfl
      exact ⟨_, fd, F, He.glo_ok X G (c.fact 6 (f := .glo "is_record") rfl), F.bindsN fun _ _ _ _ _ _ us hl => match us, hl with | [_, _, _], _ => rfl⟩
    d_is_heap := by
      obtain ⟨fd, F⟩ := c.def_ 7 (d := dd_is_heap) rfl
      exact ⟨_, fd, F, He.glo_ok X G (c.fact 7 (f := .glo "is_heap") rfl), F.bindsN fun _ _ _ _ _ _ us hl => match us, hl with | [_, _], _ => rfl⟩
    d_need_heap := by
      obtain ⟨fd, F⟩ := c.def_ 8 (d := dd_need_heap) rfl
      exact ⟨_, fd, F, He.glo_ok X G (c.fact 8 (f := .glo "need_heap") rfl), F.bindsN fun _ _ _ _ _ _ us hl => match us, hl with | [_, _], _ => rfl⟩
    d_pointed := by
      obtain ⟨fd, F⟩ := c.def_ 9 (d := dd_pointed) rfl
      exact ⟨_, fd, F, He.glo_ok X G (c.fact 9 (f := .glo "pointed") rfl), F.bindsN fun _ _ _ _ _ _ us hl => match us, hl with | [_, _], _ => rfl⟩
    d_met := by
      obtain ⟨fd, F⟩ := c.def_ 10 (d := dd_met) rfl
      exact ⟨_, fd, F, He.glo_ok X G (c.fact 10 (f := .glo "met") rfl), F.bindsN fun _ _ _ _ _ _ us hl => match us, hl with | [_], _ => rfl⟩
    d_reached := by
      obtain ⟨fd, F⟩ := c.def_ 11 (d := dd_reached) rfl
      exact ⟨_, fd, F, He.glo_ok X G (c.fact 11 (f := .glo "reached") rfl), F.bindsN fun _ _ _ _ _ _ us hl => match us, hl with | [_, _], _ => rfl⟩
    d_seen := by
      obtain ⟨fd, F⟩ := c.def_ 12 (d := dd_seen) rfl
      exact ⟨_, fd, F, He.glo_ok X G (c.fact 12 (f := .glo "seen") rfl), F.bindsN fun _ _ _ _ _ _ us hl => match us, hl with | [_, _], _ => rfl⟩
    d_look_alike := by
      obtain ⟨fd, F⟩ := c.def_ 13 (d := dd_look_alike) rfl
      exact ⟨_, fd, F, He.glo_ok X G (c.fact 13 (f := .glo "look_alike") rfl), F.bindsN fun _ _ _ _ _ _ us hl => match us, hl with | [_, _, _], _ => rfl⟩
    d_law_begun := by
      obtain ⟨fd, F⟩ := c.def_ 14 (d := dd_law_begun) rfl
      exact ⟨_, fd, F, He.glo_ok X G (c.fact 14 (f := .glo "_law_begun") rfl), F.bindsN fun _ _ _ _ _ _ us hl => match us, hl with | [_], _ => rfl⟩
    d_law_blended := by
      obtain ⟨fd, F⟩ := c.def_ 15 (d := dd_law_blended) rfl
      exact ⟨_, fd, F, He.glo_ok X G (c.fact 15 (f := .glo "_law_blended") rfl), F.bindsN fun _ _ _ _ _ _ us hl => match us, hl with | [_], _ => rfl⟩
    d_law_draw := by
      obtain ⟨fd, F⟩ := c.def_ 16 (d := dd_law_draw) rfl
      exact ⟨_, fd, F, He.glo_ok X G (c.fact 16 (f := .glo "_law_draw") rfl), F.bindsN fun _ _ _ _ _ _ us hl => match us, hl with | [_, _], _ => rfl⟩
    d_law_pick := by
      obtain ⟨fd, F⟩ := c.def_ 17 (d := dd_law_pick) rfl
      exact ⟨_, fd, F, He.glo_ok X G (c.fact 17 (f := .glo "_law_pick") rfl), F.bindsN fun _ _ _ _ _ _ us hl => match us, hl with | [_, _], _ => rfl⟩
    d_law_caught := by
      obtain ⟨fd, F⟩ := c.def_ 18 (d := dd_law_caught) rfl
      exact ⟨_, fd, F, He.glo_ok X G (c.fact 18 (f := .glo "_law_caught") rfl), F.bindsN fun _ _ _ _ _ _ us hl => match us, hl with | [_], _ => rfl⟩
    d_law_is_truth := by
      obtain ⟨fd, F⟩ := c.def_ 19 (d := dd_law_is_truth) rfl
      exact ⟨_, fd, F, He.glo_ok X G (c.fact 19 (f := .glo "_law_is_truth") rfl), F.bindsN fun _ _ _ _ _ _ us hl => match us, hl with | [_, _], _ => rfl⟩
    d_law_is_whole := by
      obtain ⟨fd, F⟩ := c.def_ 20 (d := dd_law_is_whole) rfl
      exact ⟨_, fd, F, He.glo_ok X G (c.fact 20 (f := .glo "_law_is_whole") rfl), F.bindsN fun _ _ _ _ _ _ us hl => match us, hl with | [_], _ => rfl⟩
    d_law_as_value := by
      obtain ⟨fd, F⟩ := c.def_ 21 (d := dd_law_as_value) rfl
      exact ⟨_, fd, F, He.glo_ok X G (c.fact 21 (f := .glo "_law_as_value") rfl), F.bindsN fun _ _ _ _ _ _ us hl => match us, hl with | [_, _], _ => rfl⟩
    d_law_as_deed := by
      obtain ⟨fd, F⟩ := c.def_ 22 (d := dd_law_as_deed) rfl
      exact ⟨_, fd, F, He.glo_ok X G (c.fact 22 (f := .glo "_law_as_deed") rfl), F.bindsN fun _ _ _ _ _ _ us hl => match us, hl with | [_, _, _, _], _ => rfl⟩
    d_law_as_story := by
      obtain ⟨fd, F⟩ := c.def_ 23 (d := dd_law_as_story) rfl
      exact ⟨_, fd, F, He.glo_ok X G (c.fact 23 (f := .glo "_law_as_story") rfl), F.bindsN fun _ _ _ _ _ _ us hl => match us, hl with | [_, _, _, _], _ => rfl⟩
    d_law_as_done := by
      obtain ⟨fd, F⟩ := c.def_ 24 (d := dd_law_as_done) rfl
      exact ⟨_, fd, F, He.glo_ok X G (c.fact 24 (f := .glo "_law_as_done") rfl), F.bindsN fun _ _ _ _ _ _ us hl => match us, hl with | [_, _], _ => rfl⟩
    d_law_as_heaps := by
      obtain ⟨fd, F⟩ := c.def_ 25 (d := dd_law_as_heaps) rfl
      exact ⟨_, fd, F, He.glo_ok X G (c.fact 25 (f := .glo "_law_as_heaps") rfl), F.bindsN fun _ _ _ _ _ _ us hl => match us, hl with | [_, _], _ => rfl⟩
    d_law_as_odd := by
      obtain ⟨fd, F⟩ := c.def_ 26 (d := dd_law_as_odd) rfl
      exact ⟨_, fd, F, He.glo_ok X G (c.fact 26 (f := .glo "_law_as_odd") rfl), F.bindsN fun _ _ _ _ _ _ us hl => match us, hl with | [_], _ => rfl⟩
    d_law_as_bent := by
      obtain ⟨fd, F⟩ := c.def_ 27 (d := dd_law_as_bent) rfl
      exact ⟨_, fd, F, He.glo_ok X G (c.fact 27 (f := .glo "_law_as_bent") rfl), F.bindsN fun _ _ _ _ _ _ us hl => match us, hl with | [_, _], _ => rfl⟩
    d_law_k00_is_value := by
      obtain ⟨fd, F⟩ := c.def_ 28 (d := dd_law_k00_is_value) rfl
      exact ⟨_, fd, F, He.glo_ok X G (c.fact 28 (f := .glo "_law_k00_is_value") rfl), F.bindsN fun _ _ _ _ _ _ us hl => match us, hl with | [_, _], _ => rfl⟩
    d_law_k00_is_heap := by
      obtain ⟨fd, F⟩ := c.def_ 29 (d := dd_law_k00_is_heap) rfl
      exact ⟨_, fd, F, He.glo_ok X G (c.fact 29 (f := .glo "_law_k00_is_heap") rfl), F.bindsN fun _ _ _ _ _ _ us hl => match us, hl with | [_, _], _ => rfl⟩
    d_law := by
      obtain ⟨fd, F⟩ := c.def_ 30 (d := dd_law) rfl
      exact ⟨_, fd, F, He.glo_ok X G (c.fact 30 (f := .glo "law") rfl), F.bindsN fun _ _ _ _ _ _ us hl => match us, hl with | [_], _ => rfl⟩
    b_abs := He.free_ok X G (c.fact 31 (f := .free "abs") rfl)
    b_all := He.free_ok X G (c.fact 32 (f := .free "all") rfl)
    b_bool := He.free_ok X G (c.fact 33 (f := .free "bool") rfl)
    b_enumerate := He.free_ok X G (c.fact 34 (f := .free "enumerate") rfl)
    b_int := He.free_ok X G (c.fact 35 (f := .free "int") rfl)
    b_isinstance := He.free_ok X G (c.fact 36 (f := .free "isinstance") rfl)
    b_len := He.free_ok X G (c.fact 37 (f := .free "len") rfl)
    b_list := He.free_ok X G (c.fact 38 (f := .free "list") rfl)
    b_min := He.free_ok X G (c.fact 39 (f := .free "min") rfl)
    b_range := He.free_ok X G (c.fact 40 (f := .free "range") rfl)
    b_sorted := He.free_ok X G (c.fact 41 (f := .free "sorted") rfl)
    b_str := He.free_ok X G (c.fact 42 (f := .free "str") rfl)
    b_tuple := He.free_ok X G (c.fact 43 (f := .free "tuple") rfl)
    g_MOST_NUMBER := He.int_ok X G (c.fact 44 (f := .int "MOST_NUMBER" G_MOST_NUMBER) rfl)
    g_MOST_WIDE := He.int_ok X G (c.fact 45 (f := .int "MOST_WIDE" G_MOST_WIDE) rfl)
    c_CopyError := ⟨_, He.glo_ok X G (c.fact 46 (f := .glo "CopyError") rfl)⟩
    c_BadHeap := ⟨_, He.glo_ok X G (c.fact 47 (f := .glo "BadHeap") rfl)⟩
    x_BadHeap := exF_of X G (c.fact 47 (f := .glo "BadHeap") rfl) (c.fact 46 (f := .glo "CopyError") rfl) (c.fact 48 (f := .exc "BadHeap") rfl) (c.fact 49 (f := .exm "BadHeap" "CopyError" true) rfl)
    y_BadHeap := exC_of X G (c.fact 47 (f := .glo "BadHeap") rfl) (List.all_eq_true.mp (He.ba cx.more).2 "BadHeap" (List.mem_of_getElem? (i := 0) rfl))
    c_BadWide := ⟨_, He.glo_ok X G (c.fact 50 (f := .glo "BadWide") rfl)⟩
    x_BadWide := exF_of X G (c.fact 50 (f := .glo "BadWide") rfl) (c.fact 46 (f := .glo "CopyError") rfl) (c.fact 51 (f := .exc "BadWide") rfl) (c.fact 52 (f := .exm "BadWide" "CopyError" true) rfl)
    y_BadWide := exC_of X G (c.fact 50 (f := .glo "BadWide") rfl) (List.all_eq_true.mp (He.ba cx.more).2 "BadWide" (List.mem_of_getElem? (i := 1) rfl)) }
theorem law_run {w : World} {h : Heap} {mg : Str → Option Value} {f : Addr} (Y : hkL.says w h) (G : h.Ns mainGlobals mg) (hfa : mg ("law" : Str) = some (.ref f)) : ∃ K : PySem.W.Frag, K.In h ∧ LamX.LawAtS PySem.Challenge.rw_asifcopied_k00_heaps_judged w K CX0 16 63 "script" mg f h := by
  obtain ⟨K, X, cx⟩ := Y
  have c : He.SaysD faL fnL K := cx.t.d
  have Z := fzL X G cx
  have nd : ((lamOf K tfL).map (·.1)).Nodup := lamOf_nd (He.ba cx.more).1
  obtain ⟨fd, F⟩ := c.def_ 30 (d := dd_law) rfl
  have e := hfa.symm.trans (He.glo_ok X G (c.fact 30 (f := .glo "law") rfl))
  cases e
  have b := FunD.bindsA (ps := ["script"]) F fun _ _ _ _ _ _ us hl => match us, hl with | [_], _ => rfl
  have mem_law : (("law", none) : He.Defn) ∈ tfL := List.mem_of_getElem? (i := 0) rfl
  refine ⟨K, X, fd, tfL.map (He.cT K), @toSp (lamTs (lamOf K tfL)) K 0 ct_law, fun p hp => ?_, fun p hp => ?_, fun p hp => ?_, fun s v => b s [v] rfl, fun H a ns hl _ hT hS => ?_, fun base hK hG hTB => ?_⟩
  · obtain ⟨q, hq, rfl⟩ := List.mem_map.mp hp; exact cx.empty q hq
  · obtain ⟨q, hq, rfl⟩ := List.mem_map.mp hp; exact cx.out q hq
  · obtain ⟨q, hq, rfl⟩ := List.mem_map.mp hp; exact PySem.W.codeHd_of_K X (cx.hd q hq)
  · exact sp_lawT _ (fun zs hz => ⟨zs, ⟨rfl, hz⟩, fun d ds' q => q⟩) (Nat.le_trans hl (by decide)) (lamOf_tab hT) hS
  · letI : LamT := lamTs (lamOf K tfL)
    exact ok_law (base := base) Z  F (fun env h1 h2 => lamAt_of (q := "law.<locals>.<lambda>") (hTB _ (List.mem_map.mpr ⟨("law", none), mem_law, rfl⟩)) (by decide) (lamOf_mem mem_law (by decide)) nd env (h1.trans (fnd_code (p := ("law", none)) F rfl)) h2)

end K00
open PySem PySem.W PySem.Calls PyProof.Rows
theorem PySem.Challenge.cw_asifcopied_k00_heaps_judged_holds : PySem.Challenge.rw_asifcopied_k00_heaps_judged.Holds := by
  w_on; o_law
  refine HandSHeadRun.head_any (r := OpenLaw.row PySem.Challenge.rw_asifcopied_k00_heaps_judged) (q := view (OpenLaw.row PySem.Challenge.rw_asifcopied_k00_heaps_judged).prog [39]) (H := K00.hkL) (ob := K00.obL) (M := 4000) (loose := K00.looseL) (d := HandSHeadRun.topDef (OpenLaw.row PySem.Challenge.rw_asifcopied_k00_heaps_judged).prog 39) (kwd := []) K00.obL_eq
    (by kernel_rfl) (fun s => by kernel_rfl) K00.runL (by kernel_rfl) (by kernel_rfl) (by kernel_rfl) (by rfl) (by first | assumption | decide +kernel) (by decide +kernel) ⟨rfl, rfl, rfl, rfl, rfl, by decide +kernel⟩ ?hw ?hc
  case hw => w_witness2
  case hc =>
    refine LamX.walk_ofTsE (l := PySem.Challenge.rw_asifcopied_k00_heaps_judged) (n := 63) (k := 16) (x := "script") (CX := fun _ => L2.CX0) rfl (by decide) (by kernel_rfl) ⟨rfl, by decide, by decide⟩ ?F (fun _ _ _ _ _ z => z)
    intro w mg fa h Y G hmg0
    have hmg : mg ("law" : PySem.Str) = some (.ref fa) := by
      have e : (HandSHeadRun.topDef (OpenLaw.row PySem.Challenge.rw_asifcopied_k00_heaps_judged).prog 39).name = ("law" : PySem.Str) := by kernel_rfl
      rw [← e]
      exact hmg0
    exact K00.law_run Y G hmg



