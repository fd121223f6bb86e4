import PyProof.Rows.All
import Wide.All
import OpenK.AllK
import Wide.FinOn
import HandS.ForMost
import HandS.Exc
import HandS.TryOnly
import HandS.ExcOwn
import HandS.TupAny
import HandS.TupMul
import HandS.IsInst
import HandS.Style
import HandS.Wide
import HandS.Dict
import HandS.Flow
import HandS.WordsExc
import HandS.Defaults
import HandS.TupSets
import KE.KSortTupG
import HandS.HeadHook1
import HandS.HeadHook2
import HandS.Head0
import HandS.Head1
import HandS.Head2
import HandS.HeadEnd
import PySem.Challenge.RW_netguild_k03_frame_meet_and_within
set_option Elab.async false
set_option linter.all false
set_option maxRecDepth 100000
/-! DL0: data, ownership, representation. -/
namespace DL
open PySem PySem.Spec PyProof.Rows L2

/-- plain data -/
inductive D where
  | non | bl (b : Bool) | int (i : Int) | str (x : Str) | ref (a : Addr) | ty (n : String)
  | tup (xs : List D) | lst (xs : List D) | kls (xs : List D) | dic (ks vs : List D) | obj (C : Addr) (ns : List Str) (vs : List D)
/-- owned data: a tree of owned nodes, its leaves frozen data -/
inductive T where
  | z (d : D) | tup (ts : List T) | lst (ts : List T) | dic (ks : List D) (ts : List T) | obj (C : Addr) (ns : List Str) (ts : List T)

mutual
@[simp] def D.imm : D → Bool
  | .tup xs => D.imms xs
  | .lst _ => false
  | .kls _ => false
  | .dic _ _ => false
  | .obj _ _ _ => false
  | .non => true
  | .bl _ => true
  | .int _ => true
  | .str _ => true
  | .ref _ => true
  | .ty _ => true
@[simp] def D.imms : List D → Bool
  | [] => true
  | x :: xs => x.imm && D.imms xs
end
mutual
@[simp] def T.er : T → D
  | .z d => d
  | .tup ts => .tup (T.ers ts)
  | .lst ts => .lst (T.ers ts)
  | .dic ks ts => .dic ks (T.ers ts)
  | .obj C ns ts => .obj C ns (T.ers ts)
@[simp] def T.ers : List T → List D
  | [] => []
  | t :: ts => t.er :: T.ers ts
end
mutual
/-- all frozen leaves are immutable data: nothing is shared -/
def T.clean : T → Bool
  | .z d => d.imm
  | .tup ts => T.cleans ts
  | .lst ts => T.cleans ts
  | .dic _ ts => T.cleans ts
  | .obj _ _ ts => T.cleans ts
@[simp] def T.cleans : List T → Bool
  | [] => true
  | t :: ts => t.clean && T.cleans ts
end
theorem ers_map (ts : List T) : T.ers ts = ts.map T.er := by
  induction ts with
  | nil => rfl
  | cons t ts ih => simp [T.ers, ih]
theorem imms_all (xs : List D) : D.imms xs = xs.all D.imm := by
  induction xs with
  | nil => rfl
  | cons t ts ih => simp [D.imms, ih]
theorem cleans_all (xs : List T) : T.cleans xs = xs.all T.clean := by
  induction xs with
  | nil => rfl
  | cons t ts ih => simp [T.cleans, ih]

def keyD : Key → D
  | .inl i => .int i
  | .inr x => .str x
/-- a dict's node -/
def DicN (o : HO) (ks : List D) (vs : List V) : Prop :=
  (∃ kvs : List (Key × V), o = .dK kvs ∧ ks = kvs.map (fun p => keyD p.1) ∧ vs = kvs.map (·.2)) ∨
  (∃ kvs : List (List Key × V), o = .dT kvs ∧ ks = kvs.map (fun p => .tup (p.1.map keyD)) ∧ vs = kvs.map (·.2))
theorem DicN.mu {o : HO} {ks : List D} {vs : List V} (h : DicN o ks vs) : Mut (some o) := by
  rcases h with ⟨_, rfl, _⟩ | ⟨_, rfl, _⟩ <;> trivial

section
variable (K : PySem.W.Frag)
mutual
/-- frozen data: lists, dicts, objects stand in Z, tuples in H -/
inductive Rep (Z H : Hp) : D → V → Prop
  | non : Rep Z H .non .non
  | bl {b} : Rep Z H (.bl b) (.bl b)
  | int {i} : Rep Z H (.int i) (.int i)
  | str {x} : Rep Z H (.str x) (.str x)
  | ref {a} : Rep Z H (.ref a) (.ref a)
  | ty {n} : Rep Z H (.ty n) (.ty n)
  | tup {a vs ds} : SqT K H a vs → Reps Z H ds vs → Rep Z H (.tup ds) (.ref a)
  | lst {a vs ds} : Z a = some (.lst vs) → Reps Z H ds vs → Rep Z H (.lst ds) (.ref a)
  | kls {a vs ds} : SqL K Z a vs → Reps Z H ds vs → Rep Z H (.kls ds) (.ref a)
  | dic {a o ks vs ds} : Z a = some o → DicN o ks vs → Reps Z H ds vs → Rep Z H (.dic ks ds) (.ref a)
  | obj {a C dx fs ns ds} : Z a = some (.ins C dx fs) → fs.map (·.1) = ns → Reps Z H ds (fs.map (·.2)) → Rep Z H (.obj C ns ds) (.ref a)
inductive Reps (Z H : Hp) : List D → List V → Prop
  | nil : Reps Z H [] []
  | cons {d v ds vs} : Rep Z H d v → Reps Z H ds vs → Reps Z H (d :: ds) (v :: vs)
end
mutual
/-- owned data with its footprint -/
inductive RepT (Z H : Hp) : T → V → List Addr → Prop
  | z {d v} : Rep K Z H d v → RepT Z H (.z d) v []
  | tup {a vs ts F} : SqT K H a vs → RepTs Z H ts vs F → RepT Z H (.tup ts) (.ref a) F
  | lst {a vs ts F} : H a = some (.lst vs) → RepTs Z H ts vs F → RepT Z H (.lst ts) (.ref a) (a :: F)
  | dic {a o ks vs ts F} : H a = some o → DicN o ks vs → RepTs Z H ts vs F → RepT Z H (.dic ks ts) (.ref a) (a :: F)
  | obj {a C dx fs ns ts F} : H a = some (.ins C dx fs) → fs.map (·.1) = ns → RepTs Z H ts (fs.map (·.2)) F → RepT Z H (.obj C ns ts) (.ref a) (a :: F)
inductive RepTs (Z H : Hp) : List T → List V → List Addr → Prop
  | nil : RepTs Z H [] [] []
  | cons {t v ts vs F G} : RepT Z H t v F → RepTs Z H ts vs G → RepTs Z H (t :: ts) (v :: vs) (F ++ G)
end
end

section
variable {K : PySem.W.Frag} {Z H Z' H' : Hp}
theorem SqT.mono (tt : ∀ a xs, Rd H a (.tup xs) → Rd H' a (.tup xs)) {a xs} (h : SqT K H a xs) : SqT K H' a xs := by
  rcases h with h | h
  · exact .inl (tt _ _ h)
  · exact .inr h
theorem SqL.mono (zz : ∀ a o, Z a = some o → Z' a = some o) {a xs} (h : SqL K Z a xs) : SqL K Z' a xs := by
  rcases h with h | h
  · rcases h with h | ⟨o, h⟩
    · exact .inl (.inl (zz _ _ h))
    · exact .inl (.inr ⟨o, zz _ _ h⟩)
  · exact .inr h
mutual
theorem Rep.mono (zz : ∀ a o, Z a = some o → Z' a = some o) (tt : ∀ a xs, Rd H a (.tup xs) → Rd H' a (.tup xs)) : ∀ {d v}, Rep K Z H d v → Rep K Z' H' d v
  | _, _, .non => .non
  | _, _, .bl => .bl
  | _, _, .int => .int
  | _, _, .str => .str
  | _, _, .ref => .ref
  | _, _, .ty => .ty
  | _, _, .tup h r => .tup (SqT.mono tt h) (Reps.mono zz tt r)
  | _, _, .lst h r => .lst (zz _ _ h) (Reps.mono zz tt r)
  | _, _, .kls h r => .kls (SqL.mono zz h) (Reps.mono zz tt r)
  | _, _, .dic h n r => .dic (zz _ _ h) n (Reps.mono zz tt r)
  | _, _, .obj h n r => .obj (zz _ _ h) n (Reps.mono zz tt r)
theorem Reps.mono (zz : ∀ a o, Z a = some o → Z' a = some o) (tt : ∀ a xs, Rd H a (.tup xs) → Rd H' a (.tup xs)) : ∀ {ds vs}, Reps K Z H ds vs → Reps K Z' H' ds vs
  | _, _, .nil => .nil
  | _, _, .cons r s => .cons (Rep.mono zz tt r) (Reps.mono zz tt s)
end
mutual
/-- immutable data leans on the tuples alone -/
theorem Rep.imm (tt : ∀ a xs, Rd H a (.tup xs) → Rd H' a (.tup xs)) : ∀ {d v}, Rep K Z H d v → d.imm = true → Rep K Z' H' d v
  | _, _, .non, _ => .non
  | _, _, .bl, _ => .bl
  | _, _, .int, _ => .int
  | _, _, .str, _ => .str
  | _, _, .ref, _ => .ref
  | _, _, .ty, _ => .ty
  | _, _, .tup h r, e => .tup (SqT.mono tt h) (Reps.imm tt r (by simpa [D.imm] using e))
  | _, _, .lst h r, e => by simp [D.imm] at e
  | _, _, .kls h r, e => by simp [D.imm] at e
  | _, _, .dic h n r, e => by simp [D.imm] at e
  | _, _, .obj h n r, e => by simp [D.imm] at e
theorem Reps.imm (tt : ∀ a xs, Rd H a (.tup xs) → Rd H' a (.tup xs)) : ∀ {ds vs}, Reps K Z H ds vs → D.imms ds = true → Reps K Z' H' ds vs
  | _, _, .nil, _ => .nil
  | _, _, .cons r s, e => by
    simp only [D.imms, Bool.and_eq_true] at e
    exact .cons (Rep.imm tt r e.1) (Reps.imm tt s e.2)
end
mutual
theorem RepT.keep (zz : ∀ a o, Z a = some o → Z' a = some o) (tt : ∀ a xs, Rd H a (.tup xs) → Rd H' a (.tup xs)) :
    ∀ {t v F}, RepT K Z H t v F → (∀ a ∈ F, ∀ o, H a = some o → H' a = some o) → RepT K Z' H' t v F
  | _, _, _, .z r, _ => .z (r.mono zz tt)
  | _, _, _, .tup h r, k => .tup (SqT.mono tt h) (RepTs.keep zz tt r k)
  | _, _, _, .lst h r, k => .lst (k _ List.mem_cons_self _ h) (RepTs.keep zz tt r fun a ha => k a (List.mem_cons_of_mem _ ha))
  | _, _, _, .dic h n r, k => .dic (k _ List.mem_cons_self _ h) n (RepTs.keep zz tt r fun a ha => k a (List.mem_cons_of_mem _ ha))
  | _, _, _, .obj h n r, k => .obj (k _ List.mem_cons_self _ h) n (RepTs.keep zz tt r fun a ha => k a (List.mem_cons_of_mem _ ha))
theorem RepTs.keep (zz : ∀ a o, Z a = some o → Z' a = some o) (tt : ∀ a xs, Rd H a (.tup xs) → Rd H' a (.tup xs)) :
    ∀ {ts vs F}, RepTs K Z H ts vs F → (∀ a ∈ F, ∀ o, H a = some o → H' a = some o) → RepTs K Z' H' ts vs F
  | _, _, _, .nil, _ => .nil
  | _, _, _, .cons r s, k => .cons (RepT.keep zz tt r fun a ha => k a (List.mem_append_left _ ha)) (RepTs.keep zz tt s fun a ha => k a (List.mem_append_right _ ha))
end
mutual
/-- frozen: the nodes go over into a greater Z -/
theorem RepT.frz (zz : ∀ a o, Z a = some o → Z' a = some o) : ∀ {t v F}, RepT K Z H t v F → (∀ a ∈ F, ∀ o, H a = some o → Z' a = some o) → Rep K Z' H t.er v
  | _, _, _, .z r, _ => by rw [T.er]; exact r.mono zz fun _ _ h => h
  | _, _, _, .tup h r, k => by rw [T.er]; exact .tup h (RepTs.frz zz r k)
  | _, _, _, .lst h r, k => by rw [T.er]; exact .lst (k _ List.mem_cons_self _ h) (RepTs.frz zz r fun a ha => k a (List.mem_cons_of_mem _ ha))
  | _, _, _, .dic h n r, k => by rw [T.er]; exact .dic (k _ List.mem_cons_self _ h) n (RepTs.frz zz r fun a ha => k a (List.mem_cons_of_mem _ ha))
  | _, _, _, .obj h n r, k => by rw [T.er]; exact .obj (k _ List.mem_cons_self _ h) n (RepTs.frz zz r fun a ha => k a (List.mem_cons_of_mem _ ha))
theorem RepTs.frz (zz : ∀ a o, Z a = some o → Z' a = some o) : ∀ {ts vs F}, RepTs K Z H ts vs F → (∀ a ∈ F, ∀ o, H a = some o → Z' a = some o) → Reps K Z' H (T.ers ts) vs
  | _, _, _, .nil, _ => by rw [T.ers]; exact .nil
  | _, _, _, .cons r s, k => by rw [T.ers]; exact .cons (RepT.frz zz r fun a ha => k a (List.mem_append_left _ ha)) (RepTs.frz zz s fun a ha => k a (List.mem_append_right _ ha))
end
mutual
theorem RepT.mu : ∀ {t v F}, RepT K Z H t v F → ∀ a ∈ F, Mut (H a)
  | _, _, _, .z r, a, h => by simp at h
  | _, _, _, .tup _ r, a, h => RepTs.mu r a h
  | _, _, _, .lst e r, a, h => by
    rcases List.mem_cons.mp h with rfl | h
    · rw [e]; trivial
    · exact RepTs.mu r a h
  | _, _, _, .dic e n r, a, h => by
    rcases List.mem_cons.mp h with rfl | h
    · rw [e]; exact n.mu
    · exact RepTs.mu r a h
  | _, _, _, .obj e n r, a, h => by
    rcases List.mem_cons.mp h with rfl | h
    · rw [e]; trivial
    · exact RepTs.mu r a h
theorem RepTs.mu : ∀ {ts vs F}, RepTs K Z H ts vs F → ∀ a ∈ F, Mut (H a)
  | _, _, _, .nil, a, h => by simp at h
  | _, _, _, .cons r s, a, h => by
    rcases List.mem_append.mp h with h | h
    · exact RepT.mu r a h
    · exact RepTs.mu s a h
end
theorem Reps.length {ds : List D} {vs : List V} (h : Reps K Z H ds vs) : ds.length = vs.length := by
  induction ds generalizing vs with
  | nil => cases h; rfl
  | cons d ds ih => cases h with | cons _ s => simp [ih s]
theorem RepTs.length {ts : List T} {vs : List V} {F} (h : RepTs K Z H ts vs F) : ts.length = vs.length := by
  induction ts generalizing vs F with
  | nil => cases h; rfl
  | cons d ds ih => cases h with | cons _ s => simp [ih s]
theorem Reps.get {ds : List D} {vs : List V} (h : Reps K Z H ds vs) : ∀ {i : Nat} {d : D}, ds[i]? = some d → ∃ v, vs[i]? = some v ∧ Rep K Z H d v := by
  induction ds generalizing vs with
  | nil => intro i d e; simp at e
  | cons x xs ih =>
    cases h with
    | cons r s =>
      intro i d e
      cases i with
      | zero => simp at e; subst e; exact ⟨_, by simp, r⟩
      | succ i => simp at e; obtain ⟨v, h1, h2⟩ := ih s e; exact ⟨v, by simpa using h1, h2⟩
end

/-! ### the state -/
structure Ok (Z H : Hp) (F : List Addr) : Prop where
  sub : ∀ a o, Z a = some o → H a = some o
  nod : F.Nodup
  dis : ∀ a ∈ F, Z a = none
  mu : ∀ a ∈ F, Mut (H a)
structure Ext (Z H : Hp) (F : List Addr) (Z' H' : Hp) (F' : List Addr) : Prop where
  zz : ∀ a o, Z a = some o → Z' a = some o
  hh : ∀ a o, H a = some o → a ∉ F → H' a = some o
  ff : ∀ a ∈ F', a ∈ F ∨ H a = none
  zn : ∀ a o, Z' a = some o → Z a = some o ∨ a ∈ F ∨ H a = none
theorem Ext.refl {Z H : Hp} {F : List Addr} : Ext Z H F Z H F := ⟨fun _ _ h => h, fun _ _ h _ => h, fun _ h => .inl h, fun _ _ h => .inl h⟩
theorem Ext.trans {Z H Z1 H1 Z2 H2 : Hp} {F F1 F2 : List Addr} (x : Ext Z H F Z1 H1 F1) (y : Ext Z1 H1 F1 Z2 H2 F2) : Ext Z H F Z2 H2 F2 where
  zz := fun a o h => y.zz a o (x.zz a o h)
  hh := fun a o h n => y.hh a o (x.hh a o h n) fun m => by
    rcases x.ff a m with z | z
    · exact n z
    · rw [h] at z; cases z
  ff := fun a m => by
    rcases y.ff a m with z | z
    · exact x.ff a z
    · cases e : H a with
      | none => exact .inr rfl
      | some o =>
        refine .inl (Classical.byContradiction fun n => ?_)
        rw [x.hh a o e n] at z; cases z
  zn := fun a o h => by
    rcases y.zn a o h with z | z | z
    · exact x.zn a o z
    · exact .inr (x.ff a z)
    · cases e : H a with
      | none => exact .inr (.inr rfl)
      | some u =>
        refine .inr (.inl (Classical.byContradiction fun n => ?_))
        rw [x.hh a u e n] at z; cases z
/-- less is owned behind it -/
theorem Ext.sub {Z H Z1 H1 : Hp} {F F1 F2 : List Addr} (x : Ext Z H F Z1 H1 F1) (h : ∀ a ∈ F2, a ∈ F1) : Ext Z H F Z1 H1 F2 :=
  ⟨x.zz, x.hh, fun a m => x.ff a (h a m), x.zn⟩
/-- more is owned ahead of it and kept -/
theorem Ext.wide {Z H Z1 H1 : Hp} {F F1 G : List Addr} (x : Ext Z H F Z1 H1 F1) : Ext Z H (F ++ G) Z1 H1 (F1 ++ G) :=
  ⟨x.zz, fun a o h n => x.hh a o h fun m => n (List.mem_append_left _ m), fun a m => by
    rcases List.mem_append.mp m with m | m
    · rcases x.ff a m with z | z
      · exact .inl (List.mem_append_left _ z)
      · exact .inr z
    · exact .inl (List.mem_append_right _ m), fun a o h => by
    rcases x.zn a o h with z | z | z
    · exact .inl z
    · exact .inr (.inl (List.mem_append_left _ z))
    · exact .inr (.inr z)⟩
theorem Ext.wideL {Z H Z1 H1 : Hp} {F F1 G : List Addr} (x : Ext Z H F Z1 H1 F1) : Ext Z H (G ++ F) Z1 H1 (G ++ F1) :=
  ⟨x.zz, fun a o h n => x.hh a o h fun m => n (List.mem_append_right _ m), fun a m => by
    rcases List.mem_append.mp m with m | m
    · exact .inl (List.mem_append_left _ m)
    · rcases x.ff a m with z | z
      · exact .inl (List.mem_append_right _ z)
      · exact .inr z, fun a o h => by
    rcases x.zn a o h with z | z | z
    · exact .inl z
    · exact .inr (.inl (List.mem_append_right _ z))
    · exact .inr (.inr z)⟩
theorem rd_mut {H : Hp} {a : Addr} {xs : List V} (h : Rd H a (.tup xs)) (m : Mut (H a)) : False := by
  rcases h with h | ⟨o, h⟩ <;> rw [h] at m <;> exact m
theorem Ext.tt {Z H Z' H' : Hp} {F F' : List Addr} (x : Ext Z H F Z' H' F') (ok : Ok Z H F) : ∀ a xs, Rd H a (.tup xs) → Rd H' a (.tup xs) := fun a xs h => by
  have n : a ∉ F := fun m => rd_mut h (ok.mu a m)
  rcases h with h | ⟨o, h⟩
  · exact .inl (x.hh a _ h n)
  · exact .inr ⟨o, x.hh a _ h n⟩
/-- what is owned beside stays -/
theorem RepT.frame {K : PySem.W.Frag} {Z H Z' H' : Hp} {F F' G : List Addr} {t : T} {v : V} (r : RepT K Z H t v G) (x : Ext Z H F Z' H' F') (ok : Ok Z H (F ++ G)) : RepT K Z' H' t v G := by
  have okF : Ok Z H F := ⟨ok.sub, (List.nodup_append.mp ok.nod).1, fun a h => ok.dis a (List.mem_append_left _ h), fun a h => ok.mu a (List.mem_append_left _ h)⟩
  exact r.keep x.zz (x.tt okF) fun a ha o e => x.hh a o e fun m => (List.nodup_append.mp ok.nod).2.2 a m a ha rfl
theorem RepTs.frame {K : PySem.W.Frag} {Z H Z' H' : Hp} {F F' G : List Addr} {t : List T} {v : List V} (r : RepTs K Z H t v G) (x : Ext Z H F Z' H' F') (ok : Ok Z H (F ++ G)) : RepTs K Z' H' t v G := by
  have okF : Ok Z H F := ⟨ok.sub, (List.nodup_append.mp ok.nod).1, fun a h => ok.dis a (List.mem_append_left _ h), fun a h => ok.mu a (List.mem_append_left _ h)⟩
  exact r.keep x.zz (x.tt okF) fun a ha o e => x.hh a o e fun m => (List.nodup_append.mp ok.nod).2.2 a m a ha rfl
theorem Ok.subF {Z H : Hp} {F G : List Addr} (ok : Ok Z H F) (h : G.Sublist F) : Ok Z H G :=
  ⟨ok.sub, ok.nod.sublist h, fun a m => ok.dis a (h.subset m), fun a m => ok.mu a (h.subset m)⟩
theorem Ok.left {Z H : Hp} {F G : List Addr} (ok : Ok Z H (F ++ G)) : Ok Z H F := ok.subF (List.sublist_append_left _ _)
theorem Ok.right {Z H : Hp} {F G : List Addr} (ok : Ok Z H (F ++ G)) : Ok Z H G := ok.subF (List.sublist_append_right _ _)
theorem Ok.perm {Z H : Hp} {F G : List Addr} (ok : Ok Z H F) (h : F.Perm G) : Ok Z H G :=
  ⟨ok.sub, h.nodup_iff.mp ok.nod, fun a m => ok.dis a (h.mem_iff.mpr m), fun a m => ok.mu a (h.mem_iff.mpr m)⟩
/-- the state behind a step, with what is owned beside -/
theorem Ok.beside {Z H Z' H' : Hp} {F F' G : List Addr} (x : Ext Z H F Z' H' F') (ok' : Ok Z' H' F') (ok : Ok Z H (F ++ G)) : Ok Z' H' (F' ++ G) where
  sub := ok'.sub
  nod := by
    refine List.nodup_append.mpr ⟨ok'.nod, (List.nodup_append.mp ok.nod).2.1, fun a ha b hb e => ?_⟩
    subst e
    rcases x.ff a ha with z | z
    · exact (List.nodup_append.mp ok.nod).2.2 a z a hb rfl
    · have m := ok.mu a (List.mem_append_right _ hb)
      rw [z] at m; exact m
  dis := fun a h => by
    rcases List.mem_append.mp h with h | h
    · exact ok'.dis a h
    · cases e : Z' a with
      | none => rfl
      | some o =>
        rcases x.zn a o e with z | z | z
        · rw [ok.dis a (List.mem_append_right _ h)] at z; cases z
        · exact ((List.nodup_append.mp ok.nod).2.2 a z a h rfl).elim
        · have m := ok.mu a (List.mem_append_right _ h)
          rw [z] at m; exact m.elim
  mu := fun a h => by
    rcases List.mem_append.mp h with h | h
    · exact ok'.mu a h
    · have m := ok.mu a (List.mem_append_right _ h)
      cases e : H a with
      | none => rw [e] at m; exact m.elim
      | some o =>
        rw [x.hh a o e fun z => (List.nodup_append.mp ok.nod).2.2 a z a h rfl]
        rw [e] at m; exact m

/-! ### environments -/
abbrev En := List (Option T)
inductive SlotR (K : PySem.W.Frag) (Z H : Hp) : Option T → Option V → List Addr → Prop
  | no {o} : SlotR K Z H none o []
  | so {t v F} : RepT K Z H t v F → SlotR K Z H (some t) (some v) F
inductive EnvR (K : PySem.W.Frag) (Z H : Hp) : En → L2.St → List Addr → Prop
  | nil : EnvR K Z H [] [] []
  | cons {e o F env σ G} : SlotR K Z H e o F → EnvR K Z H env σ G → EnvR K Z H (e :: env) (o :: σ) (F ++ G)
section
variable {K : PySem.W.Frag} {Z H Z' H' : Hp}
theorem SlotR.keep (zz : ∀ a o, Z a = some o → Z' a = some o) (tt : ∀ a xs, Rd H a (.tup xs) → Rd H' a (.tup xs)) {e o F} (h : SlotR K Z H e o F) (k : ∀ a ∈ F, ∀ o, H a = some o → H' a = some o) : SlotR K Z' H' e o F := by
  cases h with
  | no => exact .no
  | so r => exact .so (r.keep zz tt k)
theorem EnvR.keep (zz : ∀ a o, Z a = some o → Z' a = some o) (tt : ∀ a xs, Rd H a (.tup xs) → Rd H' a (.tup xs)) {env σ F} (h : EnvR K Z H env σ F) (k : ∀ a ∈ F, ∀ o, H a = some o → H' a = some o) : EnvR K Z' H' env σ F := by
  induction h with
  | nil => exact .nil
  | cons s _ ih => exact .cons (s.keep zz tt fun a ha => k a (List.mem_append_left _ ha)) (ih fun a ha => k a (List.mem_append_right _ ha))
theorem EnvR.length {env σ F} (h : EnvR K Z H env σ F) : env.length = σ.length := by
  induction h with
  | nil => rfl
  | cons _ _ ih => simp [ih]
/-- one slot, and what another one makes of the rest -/
theorem EnvR.lens {env σ F} (h : EnvR K Z H env σ F) : ∀ {i : Nat} {e : Option T}, env[i]? = some e → ∃ A Fi B o, F = A ++ Fi ++ B ∧ σ[i]? = some o ∧ SlotR K Z H e o Fi ∧
    ∀ Z' H', (∀ a o, Z a = some o → Z' a = some o) → (∀ a xs, Rd H a (.tup xs) → Rd H' a (.tup xs)) → (∀ a ∈ A ++ B, ∀ o, H a = some o → H' a = some o) →
      ∀ e' o' G, SlotR K Z' H' e' o' G → EnvR K Z' H' (env.set i e') (σ.set i o') (A ++ G ++ B) := by
  induction h with
  | nil => intro i e q; simp at q
  | @cons e0 o0 F0 env0 σ0 G0 s r ih =>
    intro i e q
    cases i with
    | zero =>
      simp at q; subst q
      refine ⟨[], F0, G0, o0, by simp, by simp, s, fun Z' H' zz tt k e' o' G s' => ?_⟩
      simpa using EnvR.cons s' (r.keep zz tt fun a ha => k a (by simpa using ha))
    | succ i =>
      simp at q
      obtain ⟨A, Fi, B, o, e1, e2, e3, e4⟩ := ih q
      refine ⟨F0 ++ A, Fi, B, o, by simp [e1], by simpa using e2, e3, fun Z' H' zz tt k e' o' G s' => ?_⟩
      have z := EnvR.cons (s.keep zz tt fun a ha => k a (by simp [ha])) (e4 Z' H' zz tt (fun a ha => k a (by simp only [List.mem_append] at ha ⊢; rcases ha with h | h; exact .inl (.inr h); exact .inr h)) e' o' G s')
      simpa using z
end
end DL

/-! DL1: judgements of expressions by what they compute over data. -/
namespace DL
open PySem PySem.Spec PyProof.Rows L2

structure Exc where
  C : Addr
  ns : List Str
  vs : List D
inductive Res (α : Type) where
  | ok (a : α) (e : En)
  | ex (x : Exc) (e : En)
abbrev EM (α : Type) := En → Option (Res α)
/-- an operand: a value of its own (owned or frozen), the name in a slot, or data that is only looked at -/
inductive Opd where
  | t (t : T) | s (i : Nat) | k (d : D)
@[simp] def Opd.stays : Opd → Bool
  | .k d => d.imm
  | _ => true
inductive OpdR (K : PySem.W.Frag) (Z H : Hp) (σ : L2.St) : Opd → V → List Addr → Prop
  | t {u v G} : RepT K Z H u v G → OpdR K Z H σ (.t u) v G
  | s {i v} : σ[i]? = some (some v) → OpdR K Z H σ (.s i) v []
  | k {d v} : Rep K H H d v → OpdR K Z H σ (.k d) v []
inductive OpdRs (K : PySem.W.Frag) (Z H : Hp) (σ : L2.St) : List Opd → List V → List Addr → Prop
  | nil : OpdRs K Z H σ [] [] []
  | cons {o v G os vs G'} : OpdR K Z H σ o v G → OpdRs K Z H σ os vs G' → OpdRs K Z H σ (o :: os) (v :: vs) (G ++ G')
/-- how an exception's own dict lies -/
def ExR (K : PySem.W.Frag) (Z H : Hp) (x : Exc) (d : Option Addr) : Prop :=
  (x.ns = [] ∧ x.vs = [] ∧ d = none) ∨ ∃ a fs, d = some a ∧ H a = some (.xd fs) ∧ fs.map (·.1) = x.ns ∧ Reps K Z H x.vs (fs.map (·.2))

def Grow (H H' : Hp) : Prop := ∀ a u, H a = some u → H' a = some u
def PostX (K : PySem.W.Frag) (W : WX) (σ : L2.St) (Z H : Hp) (F : List Addr) (x : Exc) (env' : En) : Prop :=
  ∀ d H' Z' F' σ', Ext Z H F Z' H' F' → Ok Z' H' F' → EnvR K Z' H' env' σ' F' → ExR K Z' H' x d → W (.ref x.C) d σ' H'
def PostE (K : PySem.W.Frag) (W : WX) (p : Bool) (σ : L2.St) (Q : VK) (Z H : Hp) (F : List Addr) (env : En) : Res Opd → Prop
  | .ok o env' => ∀ v H' Z' F' G, Ext Z H F Z' H' (F' ++ G) → Ok Z' H' (F' ++ G) → EnvR K Z' H' env' σ F' → OpdR K Z' H' σ o v G → (p = true → env' = env ∧ F' = F ∧ Z' = Z ∧ Grow H H') → Q v H'
  | .ex x env' => ∀ d H' Z' F', Ext Z H F Z' H' F' → Ok Z' H' F' → EnvR K Z' H' env' σ F' → ExR K Z' H' x d → W (.ref x.C) d σ H'
def tQ (K : PySem.W.Frag) (W : WX) (p : Bool) (f : EM Opd) : TE := fun σ H Q =>
  ∃ Z env F, Ok Z H F ∧ EnvR K Z H env σ F ∧ ∃ r, f env = some r ∧ PostE K W p σ Q Z H F env r
def PostA (K : PySem.W.Frag) (W : WX) (p : Bool) (σ : L2.St) (Q : List V → Hp → Prop) (Z H : Hp) (F : List Addr) (env : En) : Res (List Opd) → Prop
  | .ok o env' => ∀ v H' Z' F' G, Ext Z H F Z' H' (F' ++ G) → Ok Z' H' (F' ++ G) → EnvR K Z' H' env' σ F' → OpdRs K Z' H' σ o v G → (p = true → env' = env ∧ F' = F ∧ Z' = Z ∧ Grow H H') → Q v H'
  | .ex x env' => ∀ d H' Z' F', Ext Z H F Z' H' F' → Ok Z' H' F' → EnvR K Z' H' env' σ F' → ExR K Z' H' x d → W (.ref x.C) d σ H'
def tAQ (K : PySem.W.Frag) (W : WX) (p : Bool) (f : EM (List Opd)) : TA := fun σ H Q =>
  ∃ Z env F, Ok Z H F ∧ EnvR K Z H env σ F ∧ ∃ r, f env = some r ∧ PostA K W p σ Q Z H F env r
/-- a test -/
def PostT (K : PySem.W.Frag) (W : WX) (p : Bool) (σ : L2.St) (Q : Bool → Hp → Prop) (Z H : Hp) (F : List Addr) (env : En) : Res Bool → Prop
  | .ok b env' => ∀ H' Z' F', Ext Z H F Z' H' F' → Ok Z' H' F' → EnvR K Z' H' env' σ F' → (p = true → env' = env ∧ F' = F ∧ Z' = Z ∧ Grow H H') → Q b H'
  | .ex x env' => ∀ d H' Z' F', Ext Z H F Z' H' F' → Ok Z' H' F' → EnvR K Z' H' env' σ F' → ExR K Z' H' x d → W (.ref x.C) d σ H'
def tTQ (K : PySem.W.Frag) (W : WX) (p : Bool) (f : EM Bool) : TT := fun σ H Q =>
  ∃ Z env F, Ok Z H F ∧ EnvR K Z H env σ F ∧ ∃ r, f env = some r ∧ PostT K W p σ Q Z H F env r

abbrev PQ (X : Cx) (W : WX) (p : Bool) (e : Expr) (f : EM Opd) : Prop := PE X e (tQ X.K W p f)
abbrev PAQ (X : Cx) (W : WX) (p : Bool) (es : List Expr) (f : EM (List Opd)) : Prop := PA X es (tAQ X.K W p f)
abbrev PTQ (X : Cx) (W : WX) (p : Bool) (e : Expr) (f : EM Bool) : Prop := PT X e (tTQ X.K W p f)

section
variable {X : Cx} {e : Expr} {es : List Expr}
theorem _root_.L2.PE.imp {t t' : TE} (h : PE X e t) (i : ∀ σ H Q, t' σ H Q → t σ H Q) : PE X e t' := ⟨fun pins s σ H Q I q => h.run pins s σ H Q I (i σ H Q q)⟩
theorem _root_.L2.PT.imp {t t' : TT} (h : PT X e t) (i : ∀ σ H Q, t' σ H Q → t σ H Q) : PT X e t' := ⟨fun pins s σ H Q I q => h.run pins s σ H Q I (i σ H Q q)⟩
theorem _root_.L2.PA.imp {t t' : TA} (h : PA X es t) (i : ∀ σ H Q, t' σ H Q → t σ H Q) : PA X es t' := ⟨fun pos pins s σ H Q I q => h.run pos pins s σ H Q I (i σ H Q q)⟩
end

section
variable {K : PySem.W.Frag} {W : WX} {σ : L2.St} {H H' Z Z' : Hp} {env : En} {F F' G : List Addr}
theorem EnvR.at (h : EnvR K Z H env σ F) {i : Nat} {t : T} (e : env[i]? = some (some t)) : ∃ v Fi, σ[i]? = some (some v) ∧ RepT K Z H t v Fi ∧ ∀ a ∈ Fi, a ∈ F := by
  obtain ⟨A, Fi, B, o, e1, e2, e3, _⟩ := h.lens e
  cases e3 with
  | so r => exact ⟨_, Fi, e2, r, fun a ha => by rw [e1]; simp [ha]⟩
theorem Grow.tt (g : Grow H H') : ∀ a xs, Rd H a (.tup xs) → Rd H' a (.tup xs) := fun a xs h => by
  rcases h with h | ⟨o, h⟩
  · exact .inl (g _ _ h)
  · exact .inr ⟨o, g _ _ h⟩
/-- an operand behind a later step -/
theorem OpdR.later {o : Opd} {v : V} (r : OpdR K Z H σ o v G) (x : Ext Z H F Z' H' F') (ok : Ok Z H (F ++ G)) (s : o.stays = true ∨ Grow H H') : OpdR K Z' H' σ o v G := by
  cases r with
  | t r => exact .t (r.frame x ok)
  | s e => exact .s e
  | k r =>
    rcases s with s | g
    · exact .k (r.imm (x.tt ok.left) s)
    · exact .k (r.mono g g.tt)
@[simp] def Opd.rd (env : En) : Opd → Option D
  | .t u => some u.er
  | .s i => match env[i]? with
    | some (some u) => some u.er
    | _ => none
  | .k d => some d
@[simp] def rds (env : En) : List Opd → Option (List D)
  | [] => some []
  | o :: os => match o.rd env, rds env os with
    | some d, some ds => some (d :: ds)
    | _, _ => none
theorem RepT.look {t : T} {v : V} (r : RepT K Z H t v G) (ok : ∀ a o, Z a = some o → H a = some o) : Rep K H H t.er v := r.frz ok fun _ _ _ h => h
theorem OpdR.look {o : Opd} {v : V} {d : D} (r : OpdR K Z H σ o v G) (sub : ∀ a o, Z a = some o → H a = some o) (er : EnvR K Z H env σ F) (e : o.rd env = some d) : Rep K H H d v := by
  cases r with
  | t r => simp only [Opd.rd, Option.some.injEq] at e; subst e; exact r.look sub
  | k r => simp only [Opd.rd, Option.some.injEq] at e; subst e; exact r
  | @s i v h =>
    simp only [Opd.rd] at e
    split at e
    · rename_i t q
      simp only [Option.some.injEq] at e; subst e
      obtain ⟨v', Fi, h1, h2, _⟩ := er.at q
      rw [h] at h1; cases h1
      exact h2.look sub
    · cases e
theorem OpdRs.look {os : List Opd} {vs : List V} {ds : List D} (r : OpdRs K Z H σ os vs G) (sub : ∀ a o, Z a = some o → H a = some o) (er : EnvR K Z H env σ F) (e : rds env os = some ds) : Reps K H H ds vs := by
  induction r generalizing ds with
  | nil => simp only [rds, Option.some.injEq] at e; subst e; exact .nil
  | cons r _ ih =>
    simp only [rds] at e
    split at e
    · rename_i d ds' e1 e2
      simp only [Option.some.injEq] at e; subst e
      exact .cons (r.look sub er e1) (ih e2)
    · cases e
/-- the state stands as it was -/
theorem PostE.here {p : Bool} {Q : VK} {o : Opd} (h : PostE K W p σ Q Z H F env (.ok o env)) (ok : Ok Z H F) (er : EnvR K Z H env σ F) {v : V} (r : OpdR K Z H σ o v []) : Q v H :=
  h v H Z F [] (by simpa using Ext.refl) (by simpa using ok) er r fun _ => ⟨rfl, rfl, rfl, fun _ _ z => z⟩
end

/-! ### names and constants -/
def sVar (i : Nat) : EM Opd := fun env => match env[i]? with
  | some (some (.z d)) => some (.ok (.t (.z d)) env)
  | some (some _) => some (.ok (.s i) env)
  | _ => none
def sC (d : D) : EM Opd := fun env => some (.ok (.t (.z d)) env)
section
variable {X : Cx} {W : WX} {pos : Pos} {x : Str}
theorem pq_var {p : Bool} (i : Nat) (h : PE X (.Name x pos) (tVar i)) : PQ X W p (.Name x pos) (sVar i) := by
  refine h.imp fun σ H Q ⟨Z, env, F, ok, er, r, hr, post⟩ => ?_
  unfold sVar at hr
  split at hr
  · rename_i d q
    cases hr
    obtain ⟨v, Fi, h1, h2, h3⟩ := er.at q
    cases h2 with
    | z h2 => exact ⟨v, h1, post.here ok er (.t (.z h2))⟩
  · rename_i t _ q
    cases hr
    obtain ⟨v, Fi, h1, h2, h3⟩ := er.at q
    exact ⟨v, h1, post.here ok er (.s h1)⟩
  · cases hr
theorem pq_c {p : Bool} {e : Expr} {v : V} {d : D} (h : PE X e (tC v)) (r : ∀ K Z H, Rep K Z H d v) : PQ X W p e (sC d) := by
  refine h.imp fun σ H Q ⟨Z, env, F, ok, er, r', hr, post⟩ => ?_
  cases hr
  exact post.here ok er (.t (.z (r _ _ _)))
theorem pq_int {p : Bool} {i : Int} {j} : PQ X W p (.Constant (.int i) j pos) (sC (.int i)) := pq_c pe_int fun _ _ _ => .int
theorem pq_bl {p : Bool} {b : Bool} {j} : PQ X W p (.Constant (.bool b) j pos) (sC (.bl b)) := pq_c pe_bl fun _ _ _ => .bl
theorem pq_non {p : Bool} {j} : PQ X W p (.Constant .none j pos) (sC .non) := pq_c pe_non fun _ _ _ => .non
theorem pq_str {p : Bool} {s : Str} {j} : PQ X W p (.Constant (.str s) j pos) (sC (.str s)) := pq_c pe_str fun _ _ _ => .str
/-- pure is not pure, too -/
theorem PostE.weak {K : PySem.W.Frag} {σ : L2.St} {Q : VK} {Z H : Hp} {F : List Addr} {env : En} {r : Res Opd} (h : PostE K W false σ Q Z H F env r) : PostE K W true σ Q Z H F env r := by
  cases r with
  | ok o env' => exact fun v H' Z' F' G a b c d _ => h v H' Z' F' G a b c d fun z => nomatch z
  | ex x env' => exact h
theorem PQ.any {e : Expr} {f : EM Opd} (h : PQ X W true e f) : PQ X W false e f := by
  refine PE.imp h fun σ H Q ⟨Z, env, F, ok, er, r, hr, post⟩ => ⟨Z, env, F, ok, er, r, hr, post.weak⟩
end

/-! ### lists of operands -/
def sNil : EM (List Opd) := fun env => some (.ok [] env)
def sCons (p2 : Bool) (fa : EM Opd) (fr : EM (List Opd)) : EM (List Opd) := fun env =>
  match fa env with
  | none => none
  | some (.ex x env1) => some (.ex x env1)
  | some (.ok o env1) => match fr env1 with
    | none => none
    | some (.ex x env2) => some (.ex x env2)
    | some (.ok os env2) => if (p2 || o.stays) = true then some (.ok (o :: os) env2) else none
section
variable {X : Cx} {W : WX} {e : Expr} {es : List Expr}
theorem paq_nil {p : Bool} : PAQ X W p [] sNil := by
  refine pa_nil.imp fun σ H Q ⟨Z, env, F, ok, er, r, hr, post⟩ => ?_
  cases hr
  exact post [] H Z F [] (by simpa using Ext.refl) (by simpa using ok) er .nil fun _ => ⟨rfl, rfl, rfl, fun _ _ z => z⟩
/-- one operand, then the others -/
theorem cons_ok {K : PySem.W.Frag} {p1 p2 : Bool} {fa : EM Opd} {fr : EM (List Opd)} {σ : L2.St} {H : Hp} {Q : List V → Hp → Prop} (h : tAQ K W (p1 && p2) (sCons p2 fa fr) σ H Q) :
    tCons (tQ K W p1 fa) (tAQ K W p2 fr) σ H Q := by
  obtain ⟨Z, env, F, ok, er, r, hr, post⟩ := h
  unfold sCons at hr
  split at hr
  · cases hr
  · rename_i x env1 hfa
    cases hr
    exact ⟨Z, env, F, ok, er, _, hfa, post⟩
  · rename_i o env1 hfa
    refine ⟨Z, env, F, ok, er, _, hfa, fun v1 H1 Z1 F1 G1 x1 ok1 er1 or1 pp1 => ?_⟩
    split at hr
    · cases hr
    · rename_i x env2 hfr
      cases hr
      refine ⟨Z1, env1, F1, ok1.left, er1, _, hfr, fun d H' Z' F' x2 ok2 er2 ex2 => ?_⟩
      exact post d H' Z' F' ((x1.sub fun a ha => List.mem_append_left _ ha).trans x2) ok2 er2 ex2
    · rename_i os env2 hfr
      split at hr
      · rename_i hc
        cases hr
        refine ⟨Z1, env1, F1, ok1.left, er1, _, hfr, fun vs H2 Z2 F2 G2 x2 ok2 er2 or2 pp2 => ?_⟩
        have okb : Ok Z2 H2 ((F2 ++ G2) ++ G1) := Ok.beside x2 ok2 ok1
        have st : o.stays = true ∨ Grow H1 H2 := by
          cases p2 with
          | true => exact .inr (pp2 rfl).2.2.2
          | false => exact .inl (by simpa using hc)
        have or1' := or1.later x2 ok1 st
        have xt : Ext Z H F Z2 H2 (F2 ++ (G1 ++ G2)) := (x1.trans (x2.wide (G := G1))).sub fun a ha => by
          simp only [List.mem_append] at ha ⊢
          rcases ha with h | h | h
          · exact .inl (.inl h)
          · exact .inr h
          · exact .inl (.inr h)
        refine post (v1 :: vs) H2 Z2 F2 (G1 ++ G2) xt (okb.perm ?_) er2 (.cons or1' or2) fun e => ?_
        · rw [List.append_assoc]
          exact (List.Perm.append_left F2 List.perm_append_comm)
        · simp only [Bool.and_eq_true] at e
          obtain ⟨a1, a2, a3⟩ := pp1 e.1
          obtain ⟨b1, b2, b3⟩ := pp2 e.2
          exact ⟨b1.trans a1, b2.trans a2, b3.1.trans a3.1, fun a u h => b3.2 a u (a3.2 a u h)⟩
      · cases hr
theorem paq_cons {p1 p2 : Bool} {fa : EM Opd} {fr : EM (List Opd)} (ha : PQ X W p1 e fa) (hr : PAQ X W p2 es fr) (hs : starEach (e :: es) X.env = (false, eval e X.env) :: starEach es X.env := by rfl) :
    PAQ X W (p1 && p2) (e :: es) (sCons p2 fa fr) :=
  (pa_cons ha hr hs).imp fun _ _ _ h => cons_ok h
end
end DL

/-! DL2: operations on operands. -/
namespace DL
open PySem PySem.Spec PyProof.Rows L2

@[simp] def D.scal : D → Bool
  | .non => true | .bl _ => true | .int _ => true | .str _ => true | .ref _ => true | .ty _ => true
  | .tup _ => false | .lst _ => false | .kls _ => false | .dic _ _ => false | .obj _ _ _ => false
def D.v : D → V
  | .non => .non | .bl b => .bl b | .int i => .int i | .str x => .str x | .ref a => .ref a | .ty n => .ty n
  | .tup _ => .non | .lst _ => .non | .kls _ => .non | .dic _ _ => .non | .obj _ _ _ => .non
theorem rep_scal {K : PySem.W.Frag} {Z H : Hp} {d : D} (h : d.scal = true) : Rep K Z H d d.v := by
  cases d <;> first | (simp [D.scal] at h; done) | constructor

/-! ### monotony, operands one by one -/
section
variable {K : PySem.W.Frag} {W : WX} {σ : L2.St} {H : Hp}
theorem tQ_mono {p : Bool} {f : EM Opd} {Q Q' : VK} (h : tQ K W p f σ H Q) (i : ∀ v H, Q v H → Q' v H) : tQ K W p f σ H Q' := by
  obtain ⟨Z, env, F, ok, er, r, hr, post⟩ := h
  refine ⟨Z, env, F, ok, er, r, hr, ?_⟩
  cases r with
  | ok o e => exact fun v H' Z' F' G a b c d e => i _ _ (post v H' Z' F' G a b c d e)
  | ex x e => exact post
theorem nil_ok {p : Bool} {Q : List V → Hp → Prop} (h : tAQ K W p sNil σ H Q) : Q [] H := by
  obtain ⟨Z, env, F, ok, er, r, hr, post⟩ := h
  cases hr
  exact post [] H Z F [] (by simpa using Ext.refl) (by simpa using ok) er .nil fun _ => ⟨rfl, rfl, rfl, fun _ _ z => z⟩
theorem one_ok {p : Bool} {fa : EM Opd} {Q : List V → Hp → Prop} (h : tAQ K W p (sCons true fa sNil) σ H Q) : tQ K W p fa σ H fun x H1 => Q [x] H1 := by
  have h' : tAQ K W (p && true) (sCons true fa sNil) σ H Q := by simpa using h
  exact tQ_mono (cons_ok h') fun v H1 z => nil_ok z
theorem two_ok {p1 p2 : Bool} {fa fb : EM Opd} {Q : List V → Hp → Prop} (h : tAQ K W (p1 && p2) (sCons p2 fa (sCons true fb sNil)) σ H Q) :
    tQ K W p1 fa σ H fun x H1 => tQ K W p2 fb σ H1 fun y H2 => Q [x, y] H2 :=
  tQ_mono (cons_ok h) fun v H1 z => one_ok z
theorem three_ok {p1 p2 p3 : Bool} {fa fb fc : EM Opd} {Q : List V → Hp → Prop} (h : tAQ K W (p1 && (p2 && p3)) (sCons (p2 && p3) fa (sCons p3 fb (sCons true fc sNil))) σ H Q) :
    tQ K W p1 fa σ H fun x H1 => tQ K W p2 fb σ H1 fun y H2 => tQ K W p3 fc σ H2 fun z H3 => Q [x, y, z] H3 :=
  tQ_mono (cons_ok h) fun v H1 z => two_ok z
end

/-! ### an operation on operands that writes nothing -/
def sO (o : En → List Opd → Option Opd) (fr : EM (List Opd)) : EM Opd := fun env =>
  match fr env with
  | none => none
  | some (.ex x e) => some (.ex x e)
  | some (.ok os e) => match o e os with
    | none => none
    | some x => some (.ok x e)
def Link (K : PySem.W.Frag) (o : En → List Opd → Option Opd) (R : List V → Hp → VK → Prop) : Prop :=
  ∀ (σ : L2.St) (Z H : Hp) (F G : List Addr) (env : En) (os : List Opd) (xs : List V) (o' : Opd) (Q : VK), Ok Z H (F ++ G) → EnvR K Z H env σ F → OpdRs K Z H σ os xs G → o env os = some o' →
    (∀ v H' G', Grow H H' → (∀ a ∈ G', H a = none) → G'.Nodup → OpdR K Z H' σ o' v G' → Q v H') → R xs H Q
section
variable {K : PySem.W.Frag} {W : WX} {σ : L2.St} {H : Hp} {Z : Hp} {F G : List Addr}
theorem Ok.grown {H' : Hp} {G' : List Addr} (ok : Ok Z H F) (g : Grow H H') (fr : ∀ a ∈ G', H a = none) (nd : G'.Nodup) (mu : ∀ a ∈ G', Mut (H' a)) : Ok Z H' (F ++ G') where
  sub := fun a o h => g a o (ok.sub a o h)
  nod := List.nodup_append.mpr ⟨ok.nod, nd, fun a ha b hb e => by subst e; have m := ok.mu a ha; rw [fr a hb] at m; exact m⟩
  dis := fun a h => by
    rcases List.mem_append.mp h with h | h
    · exact ok.dis a h
    · cases e : Z a with
      | none => rfl
      | some o => have z := ok.sub a o e; rw [fr a h] at z; cases z
  mu := fun a h => by
    rcases List.mem_append.mp h with h | h
    · have m := ok.mu a h
      cases e : H a with
      | none => rw [e] at m; exact m.elim
      | some o => rw [g a o e]; rw [e] at m; exact m
    · exact mu a h
theorem Ext.grown {H' : Hp} {G' : List Addr} (g : Grow H H') (fr : ∀ a ∈ G', H a = none) : Ext Z H F Z H' (F ++ G') :=
  ⟨fun _ _ h => h, fun a o h _ => g a o h, fun a h => by
    rcases List.mem_append.mp h with h | h
    · exact .inl h
    · exact .inr (fr a h), fun _ _ h => .inl h⟩
theorem EnvR.grown {H' : Hp} {env : En} (er : EnvR K Z H env σ F) (g : Grow H H') : EnvR K Z H' env σ F := er.keep (fun _ _ h => h) g.tt fun a _ o h => g a o h
theorem OpdR.mu {o : Opd} {v : V} (r : OpdR K Z H σ o v G) : ∀ a ∈ G, Mut (H a) := by
  cases r with
  | t r => exact r.mu
  | s _ => intro a h; simp at h
  | k _ => intro a h; simp at h
theorem o_ok {p : Bool} {o : En → List Opd → Option Opd} {fr : EM (List Opd)} {R : List V → Hp → VK → Prop} {Q : VK} (link : Link K o R) (h : tQ K W p (sO o fr) σ H Q) : tAQ K W p fr σ H fun xs H2 => R xs H2 Q := by
  obtain ⟨Z, env, F, ok, er, r, hr, post⟩ := h
  unfold sO at hr
  split at hr
  · cases hr
  · rename_i x e hf
    cases hr
    exact ⟨Z, env, F, ok, er, _, hf, post⟩
  · rename_i os e hf
    split at hr
    · cases hr
    · rename_i x hx
      cases hr
      refine ⟨Z, env, F, ok, er, _, hf, fun vs H1 Z1 F1 G1 x1 ok1 er1 or1 pp1 => ?_⟩
      refine link σ Z1 H1 F1 G1 e os vs x Q ok1 er1 or1 hx fun v H' G' g fr' nd or2 => ?_
      have ok2 := ok1.left.grown g fr' nd or2.mu
      refine post v H' Z1 F1 G' ((x1.sub fun a ha => List.mem_append_left _ ha).trans (Ext.grown g fr')) ok2 (er1.grown g) or2 fun hp => ?_
      obtain ⟨a, b, c⟩ := pp1 hp
      exact ⟨a, b, c.1, fun q u z => g q u (c.2 q u z)⟩
end

/-! ### scalars of looked-at data -/
@[simp] def oS (g : List D → Option D) : En → List Opd → Option Opd := fun env os =>
  match rds env os with
  | none => none
  | some ds => match g ds with
    | none => none
    | some d => if d.scal = true then some (.t (.z d)) else none
theorem link_S {K : PySem.W.Frag} {g : List D → Option D} {R : List V → Hp → VK → Prop} (l : ∀ (H : Hp) (xs : List V) (ds : List D) (d : D) (Q : VK), Reps K H H ds xs → g ds = some d → Q d.v H → R xs H Q) : Link K (oS g) R := by
  intro σ Z H F G env os xs o' Q ok er or ho hq
  unfold oS at ho
  split at ho
  · cases ho
  · rename_i ds hds
    split at ho
    · cases ho
    · rename_i d hd
      split at ho
      · rename_i hs
        cases ho
        exact l H xs ds d Q (or.look ok.sub er hds) hd (hq d.v H [] (fun _ _ z => z) (fun _ z => nomatch z) List.nodup_nil (.t (.z (rep_scal hs))))
      · cases ho
section
variable {K : PySem.W.Frag} {Z H : Hp} {v : V}
theorem Rep.v_int {i : Int} (h : Rep K Z H (.int i) v) : v = .int i := by cases h; rfl
theorem Rep.v_bl {i : Bool} (h : Rep K Z H (.bl i) v) : v = .bl i := by cases h; rfl
theorem Rep.v_str {i : Str} (h : Rep K Z H (.str i) v) : v = .str i := by cases h; rfl
theorem Rep.v_non (h : Rep K Z H .non v) : v = .non := by cases h; rfl
theorem Rep.v_scal {d : D} (h : Rep K Z H d v) (s : d.scal = true) : v = d.v := by cases h <;> first | rfl | (simp [D.scal] at s)
theorem Reps.two {a b : D} {xs : List V} (h : Reps K Z H [a, b] xs) : ∃ x y, xs = [x, y] ∧ Rep K Z H a x ∧ Rep K Z H b y := by
  cases h with | cons r s => cases s with | cons r' s' => cases s'; exact ⟨_, _, rfl, r, r'⟩
theorem Reps.one {a : D} {xs : List V} (h : Reps K Z H [a] xs) : ∃ x, xs = [x] ∧ Rep K Z H a x := by
  cases h with | cons r s => cases s; exact ⟨_, rfl, r⟩
end

/-! ### sequences: their items -/
@[simp] def zs : List T → Option (List D)
  | [] => some []
  | .z d :: ts => match zs ts with
    | some ds => some (d :: ds)
    | none => none
  | _ :: _ => none
theorem zs_map (ds : List D) : zs (ds.map T.z) = some ds := by
  induction ds with
  | nil => rfl
  | cons d ds ih => simp [zs, ih]
/-- a list's items (tracked) -/
@[simp] def T.elsL : T → Option (List D)
  | .z (.lst ds) => some ds
  | .lst ts => zs ts
  | _ => none
@[simp] def T.elsK : T → Option (List D)
  | .z (.kls ds) => some ds
  | _ => none
@[simp] def T.elsT : T → Option (List D)
  | .z (.tup ds) => some ds
  | .tup ts => zs ts
  | _ => none
@[simp] def Opd.tt (env : En) : Opd → Option T
  | .t u => some u
  | .s i => match env[i]? with
    | some (some u) => some u
    | _ => none
  | .k d => if d.imm = true then some (.z d) else match d with
    | .lst ds => if D.imms ds = true then some (.lst (ds.map .z)) else none
    | _ => none
section
variable {K : PySem.W.Frag} {Z H : Hp} {σ : L2.St} {env : En} {F G : List Addr}
theorem zs_ok : ∀ {ts : List T} {ds : List D} {vs : List V} {F : List Addr}, zs ts = some ds → RepTs K Z H ts vs F → Reps K Z H ds vs
  | [], _, _, _, e, r => by
    simp only [zs, Option.some.injEq] at e; subst e
    cases r; exact .nil
  | .z d :: ts, _, _, _, e, r => by
    simp only [zs] at e
    split at e
    · rename_i ds' e'
      simp only [Option.some.injEq] at e; subst e
      cases r with
      | cons a b => cases a with | z a => exact .cons a (zs_ok e' b)
    · cases e
  | .tup _ :: _, _, _, _, e, _ => by simp [zs] at e
  | .lst _ :: _, _, _, _, e, _ => by simp [zs] at e
  | .dic _ _ :: _, _, _, _, e, _ => by simp [zs] at e
  | .obj _ _ _ :: _, _, _, _, e, _ => by simp [zs] at e
/-- a T that is represented at v in the whole heap, for looking -/
def Seen (K : PySem.W.Frag) (Z H : Hp) (u : T) (v : V) : Prop := (∃ F, RepT K Z H u v F) ∨ ∃ vs ds a, u = .lst (ds.map .z) ∧ v = .ref a ∧ H a = some (.lst vs) ∧ Reps K Z H ds vs
theorem OpdR.seen {o : Opd} {v : V} {u : T} (r : OpdR K Z H σ o v G) (er : EnvR K Z H env σ F) (e : o.tt env = some u) : Seen K Z H u v := by
  cases r with
  | t r => simp only [Opd.tt, Option.some.injEq] at e; subst e; exact .inl ⟨_, r⟩
  | @s i v h =>
    simp only [Opd.tt] at e
    split at e
    · rename_i t q
      simp only [Option.some.injEq] at e; subst e
      obtain ⟨v', Fi, h1, h2, _⟩ := er.at q
      rw [h] at h1; cases h1
      exact .inl ⟨_, h2⟩
    · cases e
  | @k d v r =>
    simp only [Opd.tt] at e
    split at e
    · rename_i hi
      simp only [Option.some.injEq] at e; subst e
      exact .inl ⟨[], .z (r.imm (fun _ _ z => z) hi)⟩
    · split at e
      · rename_i ds _
        split at e
        · rename_i hi
          simp only [Option.some.injEq] at e; subst e
          cases r with
          | lst h r => exact .inr ⟨_, ds, _, rfl, rfl, h, r.imm (fun _ _ z => z) hi⟩
        · cases e
      · cases e
theorem Seen.elsL {u : T} {v : V} {ds : List D} (r : Seen K Z H u v) (sub : ∀ a o, Z a = some o → H a = some o) (e : u.elsL = some ds) : ∃ a vs, v = .ref a ∧ H a = some (.lst vs) ∧ Reps K Z H ds vs := by
  rcases r with ⟨G, r⟩ | ⟨vs, ds', a, rfl, rfl, h, r⟩
  · cases r with
    | z r =>
      cases r <;> first | (simp [T.elsL] at e; done) | skip
      rename_i a vs ds' r h
      simp only [T.elsL, Option.some.injEq] at e; subst e
      exact ⟨_, _, rfl, sub _ _ r, h⟩
    | lst h r => exact ⟨_, _, rfl, h, zs_ok e r⟩
    | _ => simp [T.elsL] at e
  · simp only [T.elsL, zs_map, Option.some.injEq] at e; subst e
    exact ⟨_, _, rfl, h, r⟩
theorem Seen.elsK {u : T} {v : V} {ds : List D} (r : Seen K Z H u v) (sub : ∀ a o, Z a = some o → H a = some o) (e : u.elsK = some ds) : ∃ a vs, v = .ref a ∧ SqL K H a vs ∧ Reps K Z H ds vs := by
  rcases r with ⟨G, r⟩ | ⟨vs, ds', a, rfl, rfl, h, r⟩
  · cases r with
    | z r =>
      cases r <;> first | (simp [T.elsK] at e; done) | skip
      rename_i a vs ds' r h
      simp only [T.elsK, Option.some.injEq] at e; subst e
      exact ⟨_, _, rfl, SqL.mono sub r, h⟩
    | _ => simp [T.elsK] at e
  · simp [T.elsK] at e
theorem Seen.elsT {u : T} {v : V} {ds : List D} (r : Seen K Z H u v) (e : u.elsT = some ds) : ∃ a vs, v = .ref a ∧ SqT K H a vs ∧ Reps K Z H ds vs := by
  rcases r with ⟨G, r⟩ | ⟨vs, ds', a, rfl, rfl, h, r⟩
  · cases r with
    | z r =>
      cases r <;> first | (simp [T.elsT] at e; done) | skip
      rename_i a vs ds' r h
      simp only [T.elsT, Option.some.injEq] at e; subst e
      exact ⟨_, _, rfl, r, h⟩
    | tup h r => exact ⟨_, _, rfl, h, zs_ok e r⟩
    | _ => simp [T.elsT] at e
  · simp [T.elsT] at e
end
end DL

/-! DL3: operators, subscripts, built-in functions. -/
namespace DL
open PySem PySem.Spec PyProof.Rows L2

section
variable {K : PySem.W.Frag} {Z H : Hp} {σ : L2.St}
theorem grow_upd {p : Addr} {o : HO} (h : H p = none) : Grow H (upd H p o) := fun a u e => by
  rw [upd_ne (ne_of_none e h)]; exact e
theorem Reps.grown {H' : Hp} {ds : List D} {vs : List V} (r : Reps K Z H ds vs) (g : Grow H H') : Reps K Z H' ds vs := r.mono (fun _ _ h => h) g.tt
theorem reps_z {ds : List D} {vs : List V} (r : Reps K Z H ds vs) : RepTs K Z H (ds.map .z) vs [] := by
  induction ds generalizing vs with
  | nil => cases r; exact .nil
  | cons d ds ih => cases r with | cons a b => exact RepTs.cons (F := []) (G := []) (.z a) (ih b)
theorem new_lst {p : Addr} {ds : List D} {vs : List V} (h : H p = none) (r : Reps K Z H ds vs) : OpdR K Z (upd H p (.lst vs)) σ (.t (.lst (ds.map .z))) (.ref p) [p] :=
  .t (.lst upd_same (reps_z (r.grown (grow_upd h))))
theorem new_tup {p : Addr} {ds : List D} {vs : List V} (h : H p = none) (r : Reps K Z H ds vs) : OpdR K Z (upd H p (.tup vs)) σ (.t (.z (.tup ds))) (.ref p) [] :=
  .t (.z (.tup (SqT.of upd_same) (r.grown (grow_upd h))))
theorem fresh1 {p : Addr} (h : H p = none) : ∀ a ∈ [p], H a = none := fun a m => by
  rw [List.mem_singleton.mp m]; exact h
theorem Reps.append {ds ds' : List D} {vs vs' : List V} (r : Reps K Z H ds vs) (r' : Reps K Z H ds' vs') : Reps K Z H (ds ++ ds') (vs ++ vs') := by
  induction ds generalizing vs with
  | nil => cases r; exact r'
  | cons d ds ih => cases r with | cons a b => exact .cons a (ih b)
theorem OpdRs.two {a b : Opd} {xs : List V} {G : List Addr} (h : OpdRs K Z H σ [a, b] xs G) : ∃ x y A B, xs = [x, y] ∧ OpdR K Z H σ a x A ∧ OpdR K Z H σ b y B := by
  cases h with | cons r s => cases s with | cons r' s' => cases s'; exact ⟨_, _, _, _, rfl, r, r'⟩
theorem OpdRs.one {a : Opd} {xs : List V} {G : List Addr} (h : OpdRs K Z H σ [a] xs G) : ∃ x A, xs = [x] ∧ OpdR K Z H σ a x A := by
  cases h with | cons r s => cases s; exact ⟨_, _, rfl, r⟩
end
/-- a relation of two values as one of a list of them -/
abbrev R2L (r : R2) : List V → Hp → VK → Prop := fun xs H Q => r (xs.getD 0 .non) (xs.getD 1 .non) H Q

/-! ### + -/
@[simp] def oAdd (env : En) : List Opd → Option Opd
  | [a, b] => match a.rd env, b.rd env with
    | some (.int i), some (.int j) => some (.t (.z (.int (i + j))))
    | some (.str i), some (.str j) => if i.length + j.length ≤ sizeLine then some (.t (.z (.str (i ++ j)))) else none
    | some (.lst _), some (.lst _) => match a.tt env, b.tt env with
      | some u, some v => match u.elsL, v.elsL with
        | some xs, some ys => if xs.length + ys.length ≤ sizeLine then some (.t (.lst ((xs ++ ys).map .z))) else none
        | _, _ => none
      | _, _ => none
    | some (.tup _), some (.tup _) => match a.tt env, b.tt env with
      | some u, some v => match u.elsT, v.elsT with
        | some xs, some ys => if xs.length + ys.length ≤ sizeLine then some (.t (.z (.tup (xs ++ ys)))) else none
        | _, _ => none
      | _, _ => none
    | _, _ => none
  | _ => none
def rAddAny (K : PySem.W.Frag) : R2 := fun x y H Q => (∃ i j, x = .int i ∧ y = .int j ∧ Q (.int (i + j)) H) ∨ (∃ i j, x = .str i ∧ y = .str j ∧ i.length + j.length ≤ sizeLine ∧ Q (.str (i ++ j)) H) ∨ rCat x y H Q ∨ rCatA K x y H Q
theorem op_addAny {X : Cx} : OpR X (binaryOp .Add) (rAddAny X.K) := op_add.or (op_add_str.or (op_cat.or op_catA))
theorem link_add {K : PySem.W.Frag} : Link K oAdd (R2L (rAddAny K)) := by
  intro σ Z H F G env os xs o' Q ok er or ho hq
  unfold oAdd at ho
  split at ho
  · rename_i a b
    obtain ⟨x, y, A, B, rfl, ra, rb⟩ := or.two
    show rAddAny K x y H Q
    split at ho
    · rename_i i j e1 e2
      cases ho
      have h1 := (ra.look ok.sub er e1).v_int
      have h2 := (rb.look ok.sub er e2).v_int
      subst h1 h2
      exact .inl ⟨i, j, rfl, rfl, hq _ H [] (fun _ _ z => z) (fun _ z => nomatch z) List.nodup_nil (.t (.z .int))⟩
    · rename_i i j e1 e2
      split at ho
      · rename_i hl
        cases ho
        have h1 := (ra.look ok.sub er e1).v_str
        have h2 := (rb.look ok.sub er e2).v_str
        subst h1 h2
        exact .inr (.inl ⟨i, j, rfl, rfl, hl, hq _ H [] (fun _ _ z => z) (fun _ z => nomatch z) List.nodup_nil (.t (.z .str))⟩)
      · cases ho
    · split at ho
      · rename_i u v eu ev
        split at ho
        · rename_i xs ys ex ey
          split at ho
          · rename_i hl
            cases ho
            obtain ⟨p, vs, rfl, hp, r1⟩ := (ra.seen er eu).elsL ok.sub ex
            obtain ⟨q, ws, rfl, hq', r2⟩ := (rb.seen er ev).elsL ok.sub ey
            refine .inr (.inr (.inl ⟨p, q, vs, ws, rfl, rfl, hp, hq', by rw [← r1.length, ← r2.length]; exact hl, fun l hn => ?_⟩))
            exact hq _ _ [l] (grow_upd hn) (fresh1 hn) (by simp) (new_lst hn (r1.append r2))
          · cases ho
        · cases ho
      · cases ho
    · split at ho
      · rename_i u v eu ev
        split at ho
        · rename_i xs ys ex ey
          split at ho
          · rename_i hl
            cases ho
            obtain ⟨p, vs, rfl, hp, r1⟩ := (ra.seen er eu).elsT ex
            obtain ⟨q, ws, rfl, hq', r2⟩ := (rb.seen er ev).elsT ey
            refine .inr (.inr (.inr ⟨p, q, vs, ws, rfl, rfl, hp, hq', by rw [← r1.length, ← r2.length]; exact hl, fun e => ?_, fun _ e => ?_, fun _ _ l hn => ?_⟩))
            · subst e
              cases xs with
              | nil => exact hq _ H [] (fun _ _ z => z) (fun _ z => nomatch z) List.nodup_nil (.t (.z (.tup hq' (by simpa using r2))))
              | cons d ds => cases r1
            · subst e
              cases ys with
              | nil => exact hq _ H [] (fun _ _ z => z) (fun _ z => nomatch z) List.nodup_nil (.t (.z (.tup hp (by simpa using r1))))
              | cons d ds => cases r2
            · exact hq _ _ [] (grow_upd hn) (fun _ z => nomatch z) (by simp) (new_tup hn (r1.append r2))
          · cases ho
        · cases ho
      · cases ho
    · cases ho
  · cases ho

section
variable {X : Cx} {W : WX} {a b c : Expr} {pos : Pos} {p1 p2 p3 : Bool} {fa fb fc : EM Opd}
theorem pq_bin {op : Operator} {r : R2} {o : En → List Opd → Option Opd} (ho : OpR X (binaryOp op) r) (l : Link X.K o (R2L r)) (ha : PQ X W p1 a fa) (hb : PQ X W p2 b fb) :
    PQ X W (p1 && p2) (.BinOp a op b pos) (sO o (sCons p2 fa (sCons true fb sNil))) :=
  (pe_op ho ha hb).imp fun _ _ _ h => two_ok (o_ok l h)
theorem pq_un {op : UnaryOp} {r : V → Hp → VK → Prop} {o : En → List Opd → Option Opd} (ho : UnR X (unaryOp op) r) (l : Link X.K o (fun xs H Q => r (xs.getD 0 .non) H Q)) (ha : PQ X W p1 a fa) :
    PQ X W p1 (.UnaryOp op a pos) (sO o (sCons true fa sNil)) :=
  (pe_un ho ha).imp fun _ _ _ h => one_ok (o_ok l h)
theorem pq_cmp {op : CmpOp} {r : R2} {o : En → List Opd → Option Opd} (ho : OpR X (compareOp op) r) (l : Link X.K o (R2L r)) (ha : PQ X W p1 a fa) (hb : PQ X W p2 b fb) (hm : behindInMarks op b = false) :
    PQ X W (p1 && p2) (.Compare a [op] [b] pos) (sO o (sCons p2 fa (sCons true fb sNil))) :=
  (pe_cmpR ho ha hb hm).imp fun _ _ _ h => two_ok (o_ok l h)
end

/-! ### arithmetic of ints -/
@[simp] def gI (C : Int → Int → Bool) (g : Int → Int → D) : List D → Option D
  | [.int i, .int j] => if C i j = true then some (g i j) else none
  | _ => none
theorem link_I {K : PySem.W.Frag} {C : Int → Int → Bool} {P : Int → Int → Prop} {g : Int → Int → D} {g' : Int → Int → V} (hC : ∀ i j, C i j = true → P i j) (hg : ∀ i j, (g i j).v = g' i j) : Link K (oS (gI C g)) (R2L (rI P g')) := by
  refine link_S fun H xs ds d Q r e q => ?_
  unfold gI at e
  split at e
  · rename_i i j
    split at e
    · rename_i hc
      cases e
      obtain ⟨x, y, rfl, r1, r2⟩ := r.two
      have h1 := r1.v_int
      have h2 := r2.v_int
      subst h1 h2
      exact ⟨i, j, rfl, rfl, hC i j hc, by rw [← hg]; exact q⟩
    · cases e
  · cases e
theorem link_I0 {K : PySem.W.Frag} {g : Int → Int → D} {g' : Int → Int → V} (hg : ∀ i j, (g i j).v = g' i j) : Link K (oS (gI (fun _ _ => true) g)) (R2L (rI0 g')) := by
  refine link_S fun H xs ds d Q r e q => ?_
  unfold gI at e
  split at e
  · rename_i i j
    rw [if_pos rfl] at e
    cases e
    obtain ⟨x, y, rfl, r1, r2⟩ := r.two
    have h1 := r1.v_int
    have h2 := r2.v_int
    subst h1 h2
    exact ⟨i, j, rfl, rfl, by rw [← hg]; exact q⟩
  · cases e
abbrev oSub := oS (gI (fun _ _ => true) fun i j => .int (i - j))
theorem okMul_ex : ∃ f : Int → Int → Bool, ∀ i j, f i j = decide ((-(2 ^ 64) < i ∧ i < 2 ^ 64) ∨ (-(2 ^ 64) < j ∧ j < 2 ^ 64)) := ⟨_, fun _ _ => rfl⟩
/-- (chosen, so that the kernel never counts down from the bound) -/
noncomputable def okMul : Int → Int → Bool := okMul_ex.choose
theorem okMul_eq (i j : Int) : okMul i j = decide ((-(2 ^ 64) < i ∧ i < 2 ^ 64) ∨ (-(2 ^ 64) < j ∧ j < 2 ^ 64)) := okMul_ex.choose_spec i j
theorem inB_ex : ∃ f : Nat → Int → Bool, ∀ m j, f m j = decide (-(2 ^ m) ≤ j ∧ j < 2 ^ m) := ⟨_, fun _ _ => rfl⟩
noncomputable def inB : Nat → Int → Bool := inB_ex.choose
theorem inB_iff {m : Nat} {j : Int} : inB m j = true ↔ -(2 ^ m) ≤ j ∧ j < 2 ^ m := by
  rw [inB, inB_ex.choose_spec m j]
  exact decide_eq_true_iff
theorem inB_nat {m n : Nat} (h : (n : Int) < 2 ^ m) : inB m n = true := inB_iff.mpr ⟨Int.le_trans (Int.neg_nonpos_of_nonneg (Int.le_of_lt (Int.pow_pos (by decide)))) (Int.natCast_nonneg n), h⟩
abbrev oDiv := oS (gI (fun _ j => decide (0 < j ∧ j < 1073741824)) fun i j => .int (i / j))
abbrev oMod := oS (gI (fun _ j => decide (0 < j)) fun i j => .int (i % j))
abbrev oPow := oS (gI (fun i j => decide (0 ≤ j ∧ j ≤ 1000000 ∧ i.natAbs < 2 ^ 64)) fun i j => .int (i ^ j.toNat))
abbrev oLt := oS (gI (fun _ _ => true) fun i j => .bl (decide (i < j)))
abbrev oLe := oS (gI (fun _ _ => true) fun i j => .bl (decide (i ≤ j)))
abbrev oGt := oS (gI (fun _ _ => true) fun i j => .bl (decide (j < i)))
abbrev oGe := oS (gI (fun _ _ => true) fun i j => .bl (decide (j ≤ i)))
section
variable {X : Cx} {W : WX} {a b c : Expr} {pos : Pos} {p1 p2 p3 : Bool} {fa fb fc : EM Opd}
theorem pq_add (ha : PQ X W p1 a fa) (hb : PQ X W p2 b fb) : PQ X W (p1 && p2) (.BinOp a .Add b pos) (sO oAdd (sCons p2 fa (sCons true fb sNil))) := pq_bin op_addAny link_add ha hb
theorem pq_sub (ha : PQ X W p1 a fa) (hb : PQ X W p2 b fb) : PQ X W (p1 && p2) (.BinOp a .Sub b pos) (sO oSub (sCons p2 fa (sCons true fb sNil))) := pq_bin op_sub (link_I0 fun _ _ => rfl) ha hb
theorem pq_div (ha : PQ X W p1 a fa) (hb : PQ X W p2 b fb) : PQ X W (p1 && p2) (.BinOp a .FloorDiv b pos) (sO oDiv (sCons p2 fa (sCons true fb sNil))) := pq_bin op_fdiv (link_I (fun i j h => (of_decide_eq_true h : 0 < j ∧ j < 1073741824)) fun _ _ => rfl) ha hb
theorem pq_mod (ha : PQ X W p1 a fa) (hb : PQ X W p2 b fb) : PQ X W (p1 && p2) (.BinOp a .Mod b pos) (sO oMod (sCons p2 fa (sCons true fb sNil))) := pq_bin op_mod (link_I (fun i j h => of_decide_eq_true h) fun _ _ => rfl) ha hb
theorem pq_pow (ha : PQ X W p1 a fa) (hb : PQ X W p2 b fb) : PQ X W (p1 && p2) (.BinOp a .Pow b pos) (sO oPow (sCons p2 fa (sCons true fb sNil))) := pq_bin op_pow (link_I (fun i j h => (of_decide_eq_true h : 0 ≤ j ∧ j ≤ 1000000 ∧ i.natAbs < 2 ^ 64)) fun _ _ => rfl) ha hb
theorem pq_lt (ha : PQ X W p1 a fa) (hb : PQ X W p2 b fb) : PQ X W (p1 && p2) (.Compare a [.Lt] [b] pos) (sO oLt (sCons p2 fa (sCons true fb sNil))) := pq_cmp op_lt (link_I0 fun _ _ => rfl) ha hb (nomark _)
theorem pq_le (ha : PQ X W p1 a fa) (hb : PQ X W p2 b fb) : PQ X W (p1 && p2) (.Compare a [.LtE] [b] pos) (sO oLe (sCons p2 fa (sCons true fb sNil))) := pq_cmp op_le (link_I0 fun _ _ => rfl) ha hb (nomark _)
theorem pq_gt (ha : PQ X W p1 a fa) (hb : PQ X W p2 b fb) : PQ X W (p1 && p2) (.Compare a [.Gt] [b] pos) (sO oGt (sCons p2 fa (sCons true fb sNil))) := pq_cmp op_gt (link_I0 fun _ _ => rfl) ha hb (nomark _)
theorem pq_ge (ha : PQ X W p1 a fa) (hb : PQ X W p2 b fb) : PQ X W (p1 && p2) (.Compare a [.GtE] [b] pos) (sO oGe (sCons p2 fa (sCons true fb sNil))) := pq_cmp op_ge (link_I0 fun _ _ => rfl) ha hb (nomark _)
end

/-! ### * -/
@[simp] noncomputable def oMul (env : En) : List Opd → Option Opd
  | [a, b] => match a.rd env, b.rd env with
    | some (.int i), some (.int j) => if okMul i j = true then some (.t (.z (.int (i * j)))) else none
    | some (.lst _), some (.int k) => match a.tt env with
      | some u => match u.elsL with
        | some xs => if inB 63 k = true ∧ xs.length * k.toNat ≤ sizeLine then some (.t (.lst ((List.replicate k.toNat xs).flatten.map .z))) else none
        | _ => none
      | _ => none
    | _, _ => none
  | _ => none
def rMulAny : R2 := fun x y H Q => rI CMul (fun i j => .int (i * j)) x y H Q ∨ rRep x y H Q
theorem op_mulAny {X : Cx} : OpR X (binaryOp .Mult) rMulAny := op_mul.or op_rep
theorem Reps.rep {K : PySem.W.Frag} {Z H : Hp} {ds : List D} {vs : List V} (r : Reps K Z H ds vs) : ∀ n, Reps K Z H (List.replicate n ds).flatten (List.replicate n vs).flatten
  | 0 => .nil
  | n + 1 => by rw [List.replicate_succ, List.replicate_succ, List.flatten_cons, List.flatten_cons]; exact r.append (Reps.rep r n)
theorem link_mul {K : PySem.W.Frag} : Link K oMul (R2L rMulAny) := by
  intro σ Z H F G env os xs o' Q ok er or ho hq
  unfold oMul at ho
  split at ho
  · rename_i a b
    obtain ⟨x, y, A, B, rfl, ra, rb⟩ := or.two
    show rMulAny x y H Q
    split at ho
    · rename_i i j e1 e2
      split at ho
      · rename_i hc
        cases ho
        have h1 := (ra.look ok.sub er e1).v_int
        have h2 := (rb.look ok.sub er e2).v_int
        subst h1 h2
        exact .inl ⟨i, j, rfl, rfl, (of_decide_eq_true (by rw [← okMul_eq]; exact hc) : (-(2 ^ 64) < i ∧ i < 2 ^ 64) ∨ (-(2 ^ 64) < j ∧ j < 2 ^ 64)), hq _ H [] (fun _ _ z => z) (fun _ z => nomatch z) List.nodup_nil (.t (.z .int))⟩
      · cases ho
    · rename_i k e1 e2
      split at ho
      · rename_i u eu
        split at ho
        · rename_i xs ex
          split at ho
          · rename_i hl
            cases ho
            have h2 := (rb.look ok.sub er e2).v_int
            subst h2
            obtain ⟨p, vs, rfl, hp, r1⟩ := (ra.seen er eu).elsL ok.sub ex
            refine .inr ⟨p, k, vs, rfl, rfl, hp, (inB_iff.mp hl.1).1, (inB_iff.mp hl.1).2, by rw [← r1.length]; exact hl.2, fun l hn => ?_⟩
            exact hq _ _ [l] (grow_upd hn) (fresh1 hn) (by simp) (new_lst hn (r1.rep k.toNat))
          · cases ho
        · cases ho
      · cases ho
    · cases ho
  · cases ho
theorem pq_mul {X : Cx} {W : WX} {a b : Expr} {pos : Pos} {p1 p2 : Bool} {fa fb : EM Opd} (ha : PQ X W p1 a fa) (hb : PQ X W p2 b fb) : PQ X W (p1 && p2) (.BinOp a .Mult b pos) (sO oMul (sCons p2 fa (sCons true fb sNil))) := pq_bin op_mulAny link_mul ha hb
end DL

/-! DL4: subscripts, len, equality, tests. -/
namespace DL
open PySem PySem.Spec PyProof.Rows L2

/-! ### x[i] -/
theorem Reps.atI {K : PySem.W.Frag} {Z H : Hp} {ds : List D} {vs : List V} (r : Reps K Z H ds vs) {k : Int} {d : D} (e : atI ds k = some d) : ∃ v, L2.atI vs k = some v ∧ Rep K Z H d v := by
  unfold L2.atI at e ⊢
  rw [← r.length]
  cases q : ixN ds.length k with
  | none => rw [q] at e; cases e
  | some j => rw [q] at e; exact r.get e
theorem RepTs.get {K : PySem.W.Frag} {Z H : Hp} {ts : List T} {vs : List V} {F : List Addr} (r : RepTs K Z H ts vs F) : ∀ {j : Nat} {t : T}, ts[j]? = some t → ∃ v G, vs[j]? = some v ∧ RepT K Z H t v G := by
  induction ts generalizing vs F with
  | nil => intro j t e; simp at e
  | cons x xs ih =>
    cases r with
    | cons r s =>
      intro j t e
      cases j with
      | zero => simp at e; subst e; exact ⟨_, _, by simp, r⟩
      | succ j => simp at e; obtain ⟨v, G, h1, h2⟩ := ih s e; exact ⟨v, G, by simpa using h1, h2⟩
theorem RepTs.atI {K : PySem.W.Frag} {Z H : Hp} {ts : List T} {vs : List V} {F : List Addr} (r : RepTs K Z H ts vs F) {k : Int} {t : T} (e : L2.atI ts k = some t) : ∃ v G, L2.atI vs k = some v ∧ RepT K Z H t v G := by
  unfold L2.atI at e ⊢
  rw [← r.length]
  cases q : ixN ts.length k with
  | none => rw [q] at e; cases e
  | some j => rw [q] at e; exact r.get e
/-- an item as an operand -/
@[simp] def itD (d : D) : Opd := if d.imm = true then .t (.z d) else .k d
@[simp] def itT : T → Opd
  | .z d => .t (.z d)
  | t => .k t.er
def optO : Option Opd → Option Opd := id
@[simp] def ixT (u : T) (k : Int) : Option Opd := match u with
  | .z (.lst ds) => (atI ds k).map fun d => .t (.z d)
  | .z (.kls ds) => (atI ds k).map fun d => .t (.z d)
  | .z (.tup ds) => (atI ds k).map fun d => .t (.z d)
  | .z (.str x) => if x.length ≤ sizeLine then (atI x.cps.toList k).map fun c => .t (.z (.str ⟨#[c]⟩)) else none
  | .lst ts => (atI ts k).map itT
  | .tup ts => (atI ts k).map itT
  | _ => none
@[simp] def ixD (d : D) (k : Int) : Option Opd := match d with
  | .lst ds => (atI ds k).map itD
  | .kls ds => (atI ds k).map itD
  | .tup ds => (atI ds k).map itD
  | _ => none
@[simp] def oIx (env : En) : List Opd → Option Opd
  | [a, b] => match b.rd env with
    | some (.int k) => match a with
      | .k d => ixD d k
      | .t u => ixT u k
      | .s i => match env[i]? with
        | some (some u) => ixT u k
        | _ => none
    | _ => none
  | _ => none
section
variable {K : PySem.W.Frag} {Z H : Hp} {σ : L2.St} {v : V} {k : Int} {o' : Opd} {Q : VK}
theorem ixT_ok {u : T} {G : List Addr} (sub : ∀ a o, Z a = some o → H a = some o) (r : RepT K Z H u v G) (e : ixT u k = some o') (hq : ∀ v, OpdR K Z H σ o' v [] → Q v H) : rIx K v (.int k) H Q := by
  have itT_ok : ∀ {t : T} {v : V} {G : List Addr}, RepT K Z H t v G → OpdR K Z H σ (itT t) v [] := fun {t v G} r => by
    cases r with
    | z r => exact .t (.z r)
    | tup h r => exact .k (RepT.look (.tup h r) sub)
    | lst h r => exact .k (RepT.look (.lst h r) sub)
    | dic h n r => exact .k (RepT.look (.dic h n r) sub)
    | obj h n r => exact .k (RepT.look (.obj h n r) sub)
  unfold ixT at e
  split at e
  · rename_i ds
    cases r with
    | z r =>
      cases r with
      | lst h r =>
        obtain ⟨d, e1, e2⟩ := Option.map_eq_some_iff.mp e
        subst e2
        obtain ⟨w, h1, h2⟩ := r.atI e1
        exact .inl ⟨_, _, k, w, rfl, rfl, SqL.of (sub _ _ h), h1, hq w (.t (.z h2))⟩
  · rename_i ds
    cases r with
    | z r =>
      cases r with
      | kls h r =>
        obtain ⟨d, e1, e2⟩ := Option.map_eq_some_iff.mp e
        subst e2
        obtain ⟨w, h1, h2⟩ := r.atI e1
        exact .inl ⟨_, _, k, w, rfl, rfl, SqL.mono sub h, h1, hq w (.t (.z h2))⟩
  · rename_i ds
    cases r with
    | z r =>
      cases r with
      | tup h r =>
        obtain ⟨d, e1, e2⟩ := Option.map_eq_some_iff.mp e
        subst e2
        obtain ⟨w, h1, h2⟩ := r.atI e1
        exact .inr (.inl ⟨_, _, k, w, rfl, rfl, h, h1, hq w (.t (.z h2))⟩)
  · rename_i x
    split at e
    · rename_i hl
      cases r with
      | z r =>
        obtain ⟨c, e1, e2⟩ := Option.map_eq_some_iff.mp e
        subst e2
        have := r.v_str
        subst this
        exact .inr (.inr ⟨x, k, c, rfl, rfl, hl, e1, hq _ (.t (.z .str))⟩)
    · cases e
  · rename_i ts
    cases r with
    | lst h r =>
      obtain ⟨t, e1, e2⟩ := Option.map_eq_some_iff.mp e
      subst e2
      obtain ⟨w, G, h1, h2⟩ := r.atI e1
      exact .inl ⟨_, _, k, w, rfl, rfl, SqL.of h, h1, hq w (itT_ok h2)⟩
  · rename_i ts
    cases r with
    | tup h r =>
      obtain ⟨t, e1, e2⟩ := Option.map_eq_some_iff.mp e
      subst e2
      obtain ⟨w, G, h1, h2⟩ := r.atI e1
      exact .inr (.inl ⟨_, _, k, w, rfl, rfl, h, h1, hq w (itT_ok h2)⟩)
  · cases e
theorem itD_ok {d : D} (r : Rep K H H d v) : OpdR K Z H σ (itD d) v [] := by
  unfold itD
  split
  · rename_i h; exact .t (.z (r.imm (fun _ _ z => z) h))
  · exact .k r
theorem ixD_ok {d : D} (r : Rep K H H d v) (e : ixD d k = some o') (hq : ∀ v, OpdR K Z H σ o' v [] → Q v H) : rIx K v (.int k) H Q := by
  unfold ixD at e
  split at e
  · cases r with
    | lst h r =>
      obtain ⟨d, e1, e2⟩ := Option.map_eq_some_iff.mp e
      subst e2
      obtain ⟨w, h1, h2⟩ := r.atI e1
      exact .inl ⟨_, _, k, w, rfl, rfl, SqL.of h, h1, hq w (itD_ok h2)⟩
  · cases r with
    | kls h r =>
      obtain ⟨d, e1, e2⟩ := Option.map_eq_some_iff.mp e
      subst e2
      obtain ⟨w, h1, h2⟩ := r.atI e1
      exact .inl ⟨_, _, k, w, rfl, rfl, h, h1, hq w (itD_ok h2)⟩
  · cases r with
    | tup h r =>
      obtain ⟨d, e1, e2⟩ := Option.map_eq_some_iff.mp e
      subst e2
      obtain ⟨w, h1, h2⟩ := r.atI e1
      exact .inr (.inl ⟨_, _, k, w, rfl, rfl, h, h1, hq w (itD_ok h2)⟩)
  · cases e
end
theorem link_ix {K : PySem.W.Frag} : Link K oIx (R2L (rIx K)) := by
  intro σ Z H F G env os xs o' Q ok er or ho hq
  unfold oIx at ho
  split at ho
  · rename_i a b
    obtain ⟨x, y, A, B, rfl, ra, rb⟩ := or.two
    show rIx K x y H Q
    have fin : ∀ v, OpdR K Z H σ o' v [] → Q v H := fun v r => hq v H [] (fun _ _ z => z) (fun _ z => nomatch z) List.nodup_nil r
    split at ho
    · rename_i k e2
      have h2 := (rb.look ok.sub er e2).v_int
      subst h2
      split at ho
      · rename_i d
        cases ra with
        | k r => exact ixD_ok r ho fin
      · rename_i u
        cases ra with
        | t r => exact ixT_ok ok.sub r ho fin
      · rename_i i
        split at ho
        · rename_i u q
          cases ra with
          | s h =>
            obtain ⟨v', Fi, h1, h2, _⟩ := er.at q
            rw [h] at h1; cases h1
            exact ixT_ok ok.sub h2 ho fin
        · cases ho
    · cases ho
  · cases ho
theorem pq_ix {X : Cx} {W : WX} {a b : Expr} {pos : Pos} {p1 p2 : Bool} {fa fb : EM Opd} (ha : PQ X W p1 a fa) (hb : PQ X W p2 b fb) (hs : PlainIx b := by exact fun _ _ => rfl) :
    PQ X W (p1 && p2) (.Subscript a b pos) (sO oIx (sCons p2 fa (sCons true fb sNil))) :=
  (pe_ix ix_seq ha hb hs).imp fun _ _ _ h => two_ok (o_ok link_ix h)

/-! ### len -/
@[simp] def gLen : List D → Option D
  | [.lst ds] => some (.int ds.length)
  | [.kls ds] => some (.int ds.length)
  | [.tup ds] => some (.int ds.length)
  | [.str x] => if x.length ≤ sizeLine then some (.int x.length) else none
  | _ => none
theorem link_len {K : PySem.W.Frag} : Link K (oS gLen) (fun xs H Q => ∃ x n, xs = [x] ∧ LenV K x H n ∧ Q (.int n) H) := by
  refine link_S fun H xs ds d Q r e q => ?_
  unfold gLen at e
  split at e
  · obtain ⟨x, rfl, r1⟩ := r.one
    cases e
    cases r1 with | lst h r2 => exact ⟨_, _, rfl, .inl ⟨_, SqL.of h, r2.length⟩, q⟩
  · obtain ⟨x, rfl, r1⟩ := r.one
    cases e
    cases r1 with | kls h r2 => exact ⟨_, _, rfl, .inl ⟨_, h, r2.length⟩, q⟩
  · obtain ⟨x, rfl, r1⟩ := r.one
    cases e
    cases r1 with | tup h r2 => exact ⟨_, _, rfl, .inr ⟨_, h, r2.length⟩, q⟩
  · rename_i z
    split at e
    · rename_i hl
      obtain ⟨x, rfl, r1⟩ := r.one
      cases e
      have := r1.v_str
      subst this
      exact ⟨_, _, rfl, ⟨hl, rfl⟩, q⟩
    · cases e
  · cases e
section
variable {X : Cx} {W : WX} {e : Expr} {es : List Expr} {p pos : Pos} {x : Str} {id : String} {T : String} {pp : Bool} {fr : EM (List Opd)} {r : List V → Hp → VK → Prop} {o : En → List Opd → Option Opd}
/-- a built-in function -/
theorem pq_blt (hc : CallR X (.builtin id) r) (l : Link X.K o r) (hg : Gl X x) (hm : X.mg x = none) (hv : bootBuiltins x = some (.builtin id)) (ha : PAQ X W pp (e :: es) fr) (hn : x ≠ "__name__" := by decide) (hdb : (x == ("__debug__" : Str)) = false := by decide)
    (he : starEach (e :: es) X.env = (false, eval e X.env) :: starEach es X.env := by rfl) (hpl : (backTo pos (starEach es X.env)).any (·.1) = false := by rfl) :
    PQ X W pp (.Call (.Name x p) (e :: es) [] pos) (sO o fr) :=
  (pe_callB hc hg hm hv ha hn hdb he hpl).imp fun _ _ _ h => o_ok l h
theorem pq_bty (hc : CallR X (.type T) r) (l : Link X.K o r) (hg : Gl X x) (hm : X.mg x = none) (hv : bootBuiltins x = some (.type T)) (ha : PAQ X W pp (e :: es) fr) (hn : x ≠ "__name__" := by decide) (hdb : (x == ("__debug__" : Str)) = false := by decide)
    (he : starEach (e :: es) X.env = (false, eval e X.env) :: starEach es X.env := by rfl) (hpl : (backTo pos (starEach es X.env)).any (·.1) = false := by rfl) :
    PQ X W pp (.Call (.Name x p) (e :: es) [] pos) (sO o fr) :=
  (pe_callTy hc hg hm hv ha hn hdb he hpl).imp fun _ _ _ h => o_ok l h
theorem pq_len (hg : Gl X "len") (hm : X.mg "len" = none) (ha : PAQ X W pp (e :: es) fr) (he : starEach (e :: es) X.env = (false, eval e X.env) :: starEach es X.env := by rfl) (hpl : (backTo pos (starEach es X.env)).any (·.1) = false := by rfl) :
    PQ X W pp (.Call (.Name "len" p) (e :: es) [] pos) (sO (oS gLen) fr) :=
  pq_blt call_len link_len hg hm PySem.boot_len ha (by decide) (by decide) he hpl
end

/-! ### int(x), max, min -/
@[simp] def gInt : List D → Option D
  | [.int i] => some (.int i)
  | [.bl b] => some (.int (if b then 1 else 0))
  | _ => none
theorem link_int {K : PySem.W.Frag} : Link K (oS gInt) (fun xs H Q => (∃ i, xs = [.int i] ∧ Q (.int i) H) ∨ ∃ k, xs = [.bl k] ∧ Q (.int (if k then 1 else 0)) H) := by
  refine link_S fun H xs ds d Q r e q => ?_
  unfold gInt at e
  split at e
  · obtain ⟨x, rfl, r1⟩ := r.one
    cases e
    have := r1.v_int; subst this
    exact .inl ⟨_, rfl, q⟩
  · obtain ⟨x, rfl, r1⟩ := r.one
    cases e
    have := r1.v_bl; subst this
    exact .inr ⟨_, rfl, q⟩
  · cases e
theorem link_2I {K : PySem.W.Frag} {g : Int → Int → D} {g' : Int → Int → V} (hg : ∀ i j, (g i j).v = g' i j) : Link K (oS (gI (fun _ _ => true) g)) (fun xs H Q => ∃ i j, xs = [.int i, .int j] ∧ Q (g' i j) H) := by
  refine link_S fun H xs ds d Q r e q => ?_
  unfold gI at e
  split at e
  · rename_i i j
    rw [if_pos rfl] at e
    cases e
    obtain ⟨x, y, rfl, r1, r2⟩ := r.two
    have h1 := r1.v_int
    have h2 := r2.v_int
    subst h1 h2
    exact ⟨i, j, rfl, by rw [← hg]; exact q⟩
  · cases e
abbrev oMax2 := oS (gI (fun _ _ => true) fun i j => .int (if j > i then j else i))
abbrev oMin2 := oS (gI (fun _ _ => true) fun i j => .int (if j < i then j else i))

/-! ### data compared -/
mutual
def D.py : D → PyData
  | .non => .none
  | .bl b => .bool b
  | .int i => .int i
  | .str x => .str x
  | .tup xs => .tuple (D.pys xs)
  | .lst xs => .list (D.pys xs)
  | .kls xs => .list (D.pys xs)
  | .ref _ => .dict []
  | .ty _ => .dict []
  | .dic _ _ => .dict []
  | .obj _ _ _ => .dict []
def D.pys : List D → List PyData
  | [] => []
  | x :: xs => x.py :: D.pys xs
end
mutual
/-- plain, and at most n deep -/
@[simp] def D.shd : Nat → D → Bool
  | _, .non => true
  | _, .bl _ => true
  | _, .int _ => true
  | _, .str x => PyData.canLay0 (.str x)
  | n, .tup xs => match n with
    | 0 => false
    | n + 1 => D.shds n xs
  | n, .lst xs => match n with
    | 0 => false
    | n + 1 => D.shds n xs
  | n, .kls xs => match n with
    | 0 => false
    | n + 1 => D.shds n xs
  | _, .ref _ => false
  | _, .ty _ => false
  | _, .dic _ _ => false
  | _, .obj _ _ _ => false
@[simp] def D.shds : Nat → List D → Bool
  | _, [] => true
  | n, x :: xs => D.shd n x && D.shds n xs
end
theorem shds_all (n : Nat) (xs : List D) : D.shds n xs = xs.all (D.shd n) := by
  induction xs with
  | nil => simp [D.shds]
  | cons t ts ih => simp [D.shds, ih]
theorem pys_map (xs : List D) : D.pys xs = xs.map D.py := by
  induction xs with
  | nil => rfl
  | cons t ts ih => simp [D.pys, ih]
mutual
theorem shd_lay : ∀ (n : Nat) (d : D), d.shd n = true → PyData.canLay0 d.py = true ∧ d.py.depth ≤ n
  | _, .non, _ => by simp [D.py, PyData.canLay0, PyData.depth]
  | _, .bl _, _ => by simp [D.py, PyData.canLay0, PyData.depth]
  | _, .int _, _ => by simp [D.py, PyData.canLay0, PyData.depth]
  | _, .str x, h => by rw [D.shd] at h; exact ⟨by simpa [D.py] using h, by simp [D.py, PyData.depth]⟩
  | 0, .tup xs, h => by simp [D.shd] at h
  | n + 1, .tup xs, h => by
    have := shds_lay n xs (by simpa [D.shd] using h)
    simp only [D.py, PyData.canLay0, PyData.depth]
    exact ⟨this.1, by omega⟩
  | 0, .lst xs, h => by simp [D.shd] at h
  | n + 1, .lst xs, h => by
    have := shds_lay n xs (by simpa [D.shd] using h)
    simp only [D.py, PyData.canLay0, PyData.depth]
    exact ⟨this.1, by omega⟩
  | 0, .kls xs, h => by simp [D.shd] at h
  | n + 1, .kls xs, h => by
    have := shds_lay n xs (by simpa [D.shd] using h)
    simp only [D.py, PyData.canLay0, PyData.depth]
    exact ⟨this.1, by omega⟩
  | _, .ref _, h => by simp [D.shd] at h
  | _, .ty _, h => by simp [D.shd] at h
  | _, .dic _ _, h => by simp [D.shd] at h
  | _, .obj _ _ _, h => by simp [D.shd] at h
theorem shds_lay : ∀ (n : Nat) (ds : List D), D.shds n ds = true → PyData.canLayAll0 (D.pys ds) = true ∧ PyData.depthAll (D.pys ds) ≤ n
  | _, [], _ => by simp [D.pys, PyData.canLayAll0, PyData.depthAll]
  | n, d :: ds, h => by
    simp only [D.shds, Bool.and_eq_true] at h
    have h1 := shd_lay n d h.1
    have h2 := shds_lay n ds h.2
    simp only [D.pys, PyData.canLayAll0, PyData.depthAll, h1.1, h2.1, Bool.and_self, true_and]
    omega
end
mutual
theorem Rep.dp {K : PySem.W.Frag} {H : Hp} : ∀ {n : Nat} {d : D} {v : V}, Rep K H H d v → d.shd n = true → Dp K H v d.py
  | _, _, _, .non, _ => .non
  | _, _, _, .bl, _ => .bl _
  | _, _, _, .int, _ => .int _
  | _, _, _, .str, _ => .str _
  | 0, _, _, .tup h r, e => by simp [D.shd] at e
  | n + 1, _, _, .tup h r, e => .tup h (Reps.dp (n := n) r (by simpa [D.shd] using e))
  | 0, _, _, .lst h r, e => by simp [D.shd] at e
  | n + 1, _, _, .lst h r, e => .lst (SqL.of h) (Reps.dp (n := n) r (by simpa [D.shd] using e))
  | 0, _, _, .kls h r, e => by simp [D.shd] at e
  | n + 1, _, _, .kls h r, e => .lst h (Reps.dp (n := n) r (by simpa [D.shd] using e))
  | _, _, _, .ref, e => by simp [D.shd] at e
  | _, _, _, .ty, e => by simp [D.shd] at e
  | _, _, _, .dic _ _ _, e => by simp [D.shd] at e
  | _, _, _, .obj _ _ _, e => by simp [D.shd] at e
theorem Reps.dp {K : PySem.W.Frag} {H : Hp} : ∀ {n : Nat} {d : List D} {v : List V}, Reps K H H d v → D.shds n d = true → DpAll K H v (D.pys d)
  | _, _, _, .nil, _ => .nil
  | n, _, _, .cons r s, e => by
    simp only [D.shds, Bool.and_eq_true] at e
    exact .cons (r.dp e.1) (s.dp e.2)
end
def deq (a b : D) : Bool := PyData.eqv a.py b.py
@[simp] def gEq : List D → Option D
  | [a, b] => if (a.shd 60 && b.shd 60) = true then some (.bl (deq a b)) else none
  | _ => none
@[simp] def gNe : List D → Option D
  | [a, b] => if (a.shd 60 && b.shd 60) = true then some (.bl (!deq a b)) else none
  | _ => none
theorem shd_shaped {d : D} (h : d.shd 60 = true) : SeqAt.shaped d.py = true := by
  obtain ⟨h1, h2⟩ := shd_lay 60 d h
  unfold SeqAt.shaped
  rw [h1, Bool.true_and]
  exact decide_eq_true (by omega)
theorem link_eq {K : PySem.W.Frag} : Link K (oS gEq) (R2L (rEqD K)) := by
  refine link_S fun H xs ds d Q r e q => ?_
  unfold gEq at e
  split at e
  · split at e
    · rename_i h
      simp only [Bool.and_eq_true] at h
      cases e
      obtain ⟨x, y, rfl, r1, r2⟩ := r.two
      exact ⟨_, _, r1.dp h.1, r2.dp h.2, shd_shaped h.1, shd_shaped h.2, q⟩
    · cases e
  · cases e
theorem link_ne {K : PySem.W.Frag} : Link K (oS gNe) (R2L (rNeD K)) := by
  refine link_S fun H xs ds d Q r e q => ?_
  unfold gNe at e
  split at e
  · split at e
    · rename_i h
      simp only [Bool.and_eq_true] at h
      cases e
      obtain ⟨x, y, rfl, r1, r2⟩ := r.two
      exact ⟨_, _, r1.dp h.1, r2.dp h.2, shd_shaped h.1, shd_shaped h.2, q⟩
    · cases e
  · cases e
section
variable {X : Cx} {W : WX} {a b : Expr} {pos : Pos} {p1 p2 : Bool} {fa fb : EM Opd} {k : Nat}
theorem pq_eq (hr : Room k X.A) (ha : PQ X W p1 a fa) (hb : PQ X W p2 b fb) : PQ X W (p1 && p2) (.Compare a [.Eq] [b] pos) (sO (oS gEq) (sCons p2 fa (sCons true fb sNil))) := pq_cmp (op_eqD hr.units) link_eq ha hb (nomark _)
theorem pq_ne (hr : Room k X.A) (ha : PQ X W p1 a fa) (hb : PQ X W p2 b fb) : PQ X W (p1 && p2) (.Compare a [.NotEq] [b] pos) (sO (oS gNe) (sCons p2 fa (sCons true fb sNil))) := pq_cmp (op_neD hr.units) link_ne ha hb (nomark _)
end

/-! ### is -/
@[simp] def gIs : List D → Option D
  | [.bl a, .bl b] => some (.bl (decide (a = b)))
  | [.non, .non] => some (.bl true)
  | [.bl _, .non] => some (.bl false)
  | [.int _, .non] => some (.bl false)
  | [.str _, .non] => some (.bl false)
  | [.tup _, .non] => some (.bl false)
  | [.lst _, .non] => some (.bl false)
  | [.kls _, .non] => some (.bl false)
  | [.dic _ _, .non] => some (.bl false)
  | [.obj _ _ _, .non] => some (.bl false)
  | _ => none
@[simp] def gIsN : List D → Option D := fun ds => match gIs ds with
  | some (.bl b) => some (.bl (!b))
  | _ => none
def rIsAny : R2 := fun x y H Q => rIsB x y H Q ∨ (y = .non ∧ Q (.bl (decide (x = .non))) H)
def rIsNAny : R2 := fun x y H Q => rNotB x y H Q ∨ (y = .non ∧ Q (.bl (!decide (x = .non))) H)
theorem gIs_ok {K : PySem.W.Frag} {H : Hp} {x y : V} {a b : D} {k : Bool} (r1 : Rep K H H a x) (r2 : Rep K H H b y) (e : gIs [a, b] = some (.bl k)) :
    (∃ a b : Bool, x = .bl a ∧ y = .bl b ∧ k = decide (a = b)) ∨ (y = .non ∧ k = decide (x = .non)) := by
  unfold gIs at e
  split at e <;> first | (cases e; done) | skip
  all_goals rename_i he
  · cases he; cases e; cases r1; cases r2; exact .inl ⟨_, _, rfl, rfl, rfl⟩
  all_goals (cases he; cases e; cases r1; cases r2; exact .inr ⟨rfl, by simp⟩)
theorem gIs_bl {ds : List D} {d : D} (e : gIs ds = some d) : ∃ k, d = .bl k := by
  unfold gIs at e
  split at e <;> first | (cases e; done) | (cases e; exact ⟨_, rfl⟩)
theorem link_is {K : PySem.W.Frag} : Link K (oS gIs) (R2L rIsAny) := by
  refine link_S fun H xs ds d Q r e q => ?_
  obtain ⟨k, rfl⟩ := gIs_bl e
  match ds, r, e with
  | [a, b], r, e =>
    obtain ⟨x, y, rfl, r1, r2⟩ := r.two
    rcases gIs_ok r1 r2 e with ⟨a, b, rfl, rfl, rfl⟩ | ⟨rfl, rfl⟩
    · exact .inl ⟨a, b, rfl, rfl, q⟩
    · exact .inr ⟨rfl, q⟩
  | [], _, e => simp [gIs] at e
  | [_], _, e => simp [gIs] at e
  | _ :: _ :: _ :: _, _, e => simp [gIs] at e
theorem link_isN {K : PySem.W.Frag} : Link K (oS gIsN) (R2L rIsNAny) := by
  refine link_S fun H xs ds d Q r e q => ?_
  unfold gIsN at e
  split at e
  · rename_i k e'
    cases e
    match ds, r, e' with
    | [a, b], r, e =>
      obtain ⟨x, y, rfl, r1, r2⟩ := r.two
      rcases gIs_ok r1 r2 e with ⟨a, b, rfl, rfl, rfl⟩ | ⟨rfl, rfl⟩
      · exact .inl ⟨a, b, rfl, rfl, q⟩
      · exact .inr ⟨rfl, q⟩
    | [], _, e => simp [gIs] at e
    | [_], _, e => simp [gIs] at e
    | _ :: _ :: _ :: _, _, e => simp [gIs] at e
  · cases e
section
variable {X : Cx} {W : WX} {a b : Expr} {pos : Pos} {p1 p2 : Bool} {fa fb : EM Opd}
theorem pq_is (ha : PQ X W p1 a fa) (hb : PQ X W p2 b fb) : PQ X W (p1 && p2) (.Compare a [.Is] [b] pos) (sO (oS gIs) (sCons p2 fa (sCons true fb sNil))) := pq_cmp (op_isBl.or op_isN) link_is ha hb (nomark _)
theorem pq_isN (ha : PQ X W p1 a fa) (hb : PQ X W p2 b fb) : PQ X W (p1 && p2) (.Compare a [.IsNot] [b] pos) (sO (oS gIsN) (sCons p2 fa (sCons true fb sNil))) := pq_cmp (op_notBl.or op_notN) link_isN ha hb (nomark _)
end
end DL

/-! DL5: tests, and, or, not, if-else. -/
namespace DL
open PySem PySem.Spec PyProof.Rows L2

abbrev PWQ (X : Cx) (W : WX) (p : Bool) (e : Expr) (f : EM Bool) : Prop := PW X e (tTQ X.K W p f)
theorem _root_.L2.PW.imp {X : Cx} {e : Expr} {t t' : TT} (h : PW X e t) (i : ∀ σ H Q, t' σ H Q → t σ H Q) : PW X e t' := ⟨fun wh pins s σ H Q I q => h.run wh pins s σ H Q I (i σ H Q q)⟩
/-- a truth value as a test -/
def sTb (f : EM Opd) : EM Bool := fun env => match f env with
  | none => none
  | some (.ex x e) => some (.ex x e)
  | some (.ok o e) => match o.rd e with
    | some (.bl b) => some (.ok b e)
    | _ => none
@[simp] def gTru : D → Option Bool
  | .non => some false
  | .bl b => some b
  | .int i => some (i != 0)
  | .str x => if x.length ≤ sizeLine then some ((x.length : Int) != 0) else none
  | .lst xs => some (!xs.isEmpty)
  | .kls xs => some (!xs.isEmpty)
  | .tup xs => some (!xs.isEmpty)
  | _ => none
def sTr (f : EM Opd) : EM Bool := fun env => match f env with
  | none => none
  | some (.ex x e) => some (.ex x e)
  | some (.ok o e) => match o.rd e with
    | none => none
    | some d => match gTru d with
      | none => none
      | some b => some (.ok b e)
section
variable {K : PySem.W.Frag} {W : WX} {σ : L2.St} {H : Hp}
theorem reps_empty {Z : Hp} {ds : List D} {vs : List V} (r : Reps K Z H ds vs) : (!vs.isEmpty) = !ds.isEmpty := by
  cases r <;> rfl
theorem gTru_ok {d : D} {v : V} {b : Bool} (r : Rep K H H d v) (e : gTru d = some b) : TruV K v H b := by
  cases r <;> simp only [gTru] at e <;> first | (cases e; rfl) | skip
  · split at e
    · rename_i h; cases e; exact ⟨h, rfl⟩
    · cases e
  · cases e
  · cases e
  · rename_i r h; cases e; exact .inr (.inl ⟨_, r, by rw [reps_empty h]⟩)
  · rename_i r h; cases e; exact .inl ⟨_, SqL.of r, by rw [reps_empty h]⟩
  · rename_i r h; cases e; exact .inl ⟨_, r, by rw [reps_empty h]⟩
  · cases e
  · cases e
theorem tr_ok {p : Bool} {f : EM Opd} {Q : Bool → Hp → Prop} (h : tTQ K W p (sTr f) σ H Q) : tQ K W p f σ H fun x H' => ∃ k, TruV K x H' k ∧ Q k H' := by
  obtain ⟨Z, env, F, ok, er, r, hr, post⟩ := h
  unfold sTr at hr
  split at hr
  · cases hr
  · rename_i x e hf
    cases hr
    exact ⟨Z, env, F, ok, er, _, hf, post⟩
  · rename_i o e hf
    split at hr
    · cases hr
    · rename_i d hd
      split at hr
      · cases hr
      · rename_i b hb
        cases hr
        refine ⟨Z, env, F, ok, er, _, hf, fun v H' Z' F' G x1 ok1 er1 or1 pp => ⟨b, gTru_ok (or1.look ok1.sub er1 hd) hb, ?_⟩⟩
        exact post H' Z' F' (x1.sub fun a ha => List.mem_append_left _ ha) ok1.left er1 pp
theorem tb_ok {p : Bool} {f : EM Opd} {Q : Bool → Hp → Prop} (h : tTQ K W p (sTb f) σ H Q) : tQ K W p f σ H fun x H' => ∃ k, x = .bl k ∧ Q k H' := by
  obtain ⟨Z, env, F, ok, er, r, hr, post⟩ := h
  unfold sTb at hr
  split at hr
  · cases hr
  · rename_i x e hf
    cases hr
    exact ⟨Z, env, F, ok, er, _, hf, post⟩
  · rename_i o e hf
    split at hr
    · rename_i b hd
      cases hr
      refine ⟨Z, env, F, ok, er, _, hf, fun v H' Z' F' G x1 ok1 er1 or1 pp => ⟨b, (or1.look ok1.sub er1 hd).v_bl, ?_⟩⟩
      exact post H' Z' F' (x1.sub fun a ha => List.mem_append_left _ ha) ok1.left er1 pp
    · cases hr
end
section
variable {X : Cx} {W : WX} {a b c : Expr} {rest : List Expr} {pos : Pos} {p p1 p2 p3 : Bool} {fa fb fc : EM Opd} {ta tb tc : EM Bool}
theorem ptq_tr (h : PQ X W p a fa) (he : ∀ whole, isTrue a X.env whole = (do let v ← whole; standAt a.pos; holding [v] (truthy v)) := by intro _; rfl) : PTQ X W p a (sTr fa) :=
  (pt_truth h he).imp fun _ _ _ h => tr_ok h
theorem ptq_cmp {op : CmpOp} {r : R2} {o : En → List Opd → Option Opd} (ho : OpR X (compareOp op) r) (l : Link X.K o (R2L r)) (ha : PQ X W p1 a fa) (hb : PQ X W p2 b fb) (hm : behindInMarks op b = false) :
    PTQ X W (p1 && p2) (.Compare a [op] [b] pos) (sTb (sO o (sCons p2 fa (sCons true fb sNil)))) :=
  (pt_cmpR ho ha hb hm).imp fun _ _ _ h => two_ok (o_ok l (tb_ok h))
/-! comparisons as tests -/
theorem ptq_lt (ha : PQ X W p1 a fa) (hb : PQ X W p2 b fb) : PTQ X W (p1 && p2) (.Compare a [.Lt] [b] pos) (sTb (sO oLt (sCons p2 fa (sCons true fb sNil)))) := ptq_cmp op_lt (link_I0 fun _ _ => rfl) ha hb (nomark _)
theorem ptq_le (ha : PQ X W p1 a fa) (hb : PQ X W p2 b fb) : PTQ X W (p1 && p2) (.Compare a [.LtE] [b] pos) (sTb (sO oLe (sCons p2 fa (sCons true fb sNil)))) := ptq_cmp op_le (link_I0 fun _ _ => rfl) ha hb (nomark _)
theorem ptq_gt (ha : PQ X W p1 a fa) (hb : PQ X W p2 b fb) : PTQ X W (p1 && p2) (.Compare a [.Gt] [b] pos) (sTb (sO oGt (sCons p2 fa (sCons true fb sNil)))) := ptq_cmp op_gt (link_I0 fun _ _ => rfl) ha hb (nomark _)
theorem ptq_ge (ha : PQ X W p1 a fa) (hb : PQ X W p2 b fb) : PTQ X W (p1 && p2) (.Compare a [.GtE] [b] pos) (sTb (sO oGe (sCons p2 fa (sCons true fb sNil)))) := ptq_cmp op_ge (link_I0 fun _ _ => rfl) ha hb (nomark _)
theorem ptq_eq {k : Nat} (hr : Room k X.A) (ha : PQ X W p1 a fa) (hb : PQ X W p2 b fb) : PTQ X W (p1 && p2) (.Compare a [.Eq] [b] pos) (sTb (sO (oS gEq) (sCons p2 fa (sCons true fb sNil)))) := ptq_cmp (op_eqD hr.units) link_eq ha hb (nomark _)
theorem ptq_ne {k : Nat} (hr : Room k X.A) (ha : PQ X W p1 a fa) (hb : PQ X W p2 b fb) : PTQ X W (p1 && p2) (.Compare a [.NotEq] [b] pos) (sTb (sO (oS gNe) (sCons p2 fa (sCons true fb sNil)))) := ptq_cmp (op_neD hr.units) link_ne ha hb (nomark _)
theorem ptq_is (ha : PQ X W p1 a fa) (hb : PQ X W p2 b fb) : PTQ X W (p1 && p2) (.Compare a [.Is] [b] pos) (sTb (sO (oS gIs) (sCons p2 fa (sCons true fb sNil)))) := ptq_cmp (op_isBl.or op_isN) link_is ha hb (nomark _)
theorem ptq_isN (ha : PQ X W p1 a fa) (hb : PQ X W p2 b fb) : PTQ X W (p1 && p2) (.Compare a [.IsNot] [b] pos) (sTb (sO (oS gIsN) (sCons p2 fa (sCons true fb sNil)))) := ptq_cmp (op_notBl.or op_notN) link_isN ha hb (nomark _)
end

/-! ### and, or, not as tests -/
def sAnd (fa fb : EM Bool) : EM Bool := fun env => match fa env with
  | some (.ok true e) => fb e
  | r => r
def sOr (fa fb : EM Bool) : EM Bool := fun env => match fa env with
  | some (.ok false e) => fb e
  | r => r
def sNot (fa : EM Bool) : EM Bool := fun env => match fa env with
  | some (.ok b e) => some (.ok (!b) e)
  | r => r
section
variable {K : PySem.W.Frag} {W : WX} {σ : L2.St} {H : Hp} {p1 p2 : Bool} {ta tb : EM Bool}
theorem and_ok {Q : Bool → Hp → Prop} (h : tTQ K W (p1 && p2) (sAnd ta tb) σ H Q) : tAnd (tTQ K W p1 ta) (tTQ K W p2 tb) σ H Q := by
  obtain ⟨Z, env, F, ok, er, r, hr, post⟩ := h
  unfold sAnd at hr
  split at hr
  · rename_i e hf
    refine ⟨Z, env, F, ok, er, _, hf, fun H1 Z1 F1 x1 ok1 er1 pp1 => ?_⟩
    refine iteT ?_
    refine ⟨Z1, e, F1, ok1, er1, r, hr, ?_⟩
    cases r with
    | ok b e2 =>
      refine fun H2 Z2 F2 x2 ok2 er2 pp2 => post H2 Z2 F2 (x1.trans x2) ok2 er2 fun hp => ?_
      simp only [Bool.and_eq_true] at hp
      obtain ⟨a1, a2, a3⟩ := pp1 hp.1
      obtain ⟨b1, b2, b3⟩ := pp2 hp.2
      exact ⟨b1.trans a1, b2.trans a2, b3.1.trans a3.1, fun a u h => b3.2 a u (a3.2 a u h)⟩
    | ex x e2 => exact fun d H2 Z2 F2 x2 ok2 er2 xr => post d H2 Z2 F2 (x1.trans x2) ok2 er2 xr
  · rename_i hn
    refine ⟨Z, env, F, ok, er, r, hr, ?_⟩
    cases r with
    | ok b e =>
      cases b with
      | true => exact absurd hr (hn e)
      | false =>
        refine fun H1 Z1 F1 x1 ok1 er1 pp1 => ?_
        refine iteF ?_
        exact post H1 Z1 F1 x1 ok1 er1 fun hp => pp1 (by simp only [Bool.and_eq_true] at hp; exact hp.1)
    | ex x e => exact post
theorem or_ok {Q : Bool → Hp → Prop} (h : tTQ K W (p1 && p2) (sOr ta tb) σ H Q) : tOr (tTQ K W p1 ta) (tTQ K W p2 tb) σ H Q := by
  obtain ⟨Z, env, F, ok, er, r, hr, post⟩ := h
  unfold sOr at hr
  split at hr
  · rename_i e hf
    refine ⟨Z, env, F, ok, er, _, hf, fun H1 Z1 F1 x1 ok1 er1 pp1 => ?_⟩
    refine iteF ?_
    refine ⟨Z1, e, F1, ok1, er1, r, hr, ?_⟩
    cases r with
    | ok b e2 =>
      refine fun H2 Z2 F2 x2 ok2 er2 pp2 => post H2 Z2 F2 (x1.trans x2) ok2 er2 fun hp => ?_
      simp only [Bool.and_eq_true] at hp
      obtain ⟨a1, a2, a3⟩ := pp1 hp.1
      obtain ⟨b1, b2, b3⟩ := pp2 hp.2
      exact ⟨b1.trans a1, b2.trans a2, b3.1.trans a3.1, fun a u h => b3.2 a u (a3.2 a u h)⟩
    | ex x e2 => exact fun d H2 Z2 F2 x2 ok2 er2 xr => post d H2 Z2 F2 (x1.trans x2) ok2 er2 xr
  · rename_i hn
    refine ⟨Z, env, F, ok, er, r, hr, ?_⟩
    cases r with
    | ok b e =>
      cases b with
      | false => exact absurd hr (hn e)
      | true =>
        refine fun H1 Z1 F1 x1 ok1 er1 pp1 => ?_
        refine iteT ?_
        exact post H1 Z1 F1 x1 ok1 er1 fun hp => pp1 (by simp only [Bool.and_eq_true] at hp; exact hp.1)
    | ex x e => exact post
theorem not_ok {Q : Bool → Hp → Prop} (h : tTQ K W p1 (sNot ta) σ H Q) : tNot (tTQ K W p1 ta) σ H Q := by
  obtain ⟨Z, env, F, ok, er, r, hr, post⟩ := h
  unfold sNot at hr
  split at hr
  · rename_i b e hf
    cases hr
    exact ⟨Z, env, F, ok, er, _, hf, fun H1 Z1 F1 x1 ok1 er1 pp1 => post H1 Z1 F1 x1 ok1 er1 pp1⟩
  · rename_i hn
    cases r with
    | ok b e => exact absurd hr (hn b e)
    | ex x e => exact ⟨Z, env, F, ok, er, _, hr, post⟩
end
section
variable {X : Cx} {W : WX} {a b c : Expr} {rest : List Expr} {pos : Pos} {p p1 p2 p3 : Bool} {fa fb fc : EM Opd} {ta tb tc : EM Bool}
theorem pwq_and1 (ha : PTQ X W p a ta) : PWQ X W p (.BoolOp .And [a] pos) ta := pw_and1 ha
theorem pwq_or1 (ha : PTQ X W p a ta) : PWQ X W p (.BoolOp .Or [a] pos) ta := pw_or1 ha
theorem pwq_and (ha : PTQ X W p1 a ta) (hb : PWQ X W p2 (.BoolOp .And (b :: rest) pos) tb) : PWQ X W (p1 && p2) (.BoolOp .And (a :: b :: rest) pos) (sAnd ta tb) := (pw_and ha hb).imp fun _ _ _ h => and_ok h
theorem pwq_or (ha : PTQ X W p1 a ta) (hb : PWQ X W p2 (.BoolOp .Or (b :: rest) pos) tb) : PWQ X W (p1 && p2) (.BoolOp .Or (a :: b :: rest) pos) (sOr ta tb) := (pw_or ha hb).imp fun _ _ _ h => or_ok h
theorem ptq_w {e : Expr} (h : PWQ X W p e ta) : PTQ X W p e ta := h.pt
theorem ptq_not (ha : PTQ X W p a ta) : PTQ X W p (.UnaryOp .Not a pos) (sNot ta) := (pt_not ha).imp fun _ _ _ h => not_ok h
end

/-! ### .. as values -/
def sAndV (fa fb : EM Opd) : EM Opd := fun env => match fa env with
  | none => none
  | some (.ex x e) => some (.ex x e)
  | some (.ok o e) => match o.rd e with
    | some (.bl true) => fb e
    | some (.bl false) => some (.ok (.t (.z (.bl false))) e)
    | _ => none
def sOrV (fa fb : EM Opd) : EM Opd := fun env => match fa env with
  | none => none
  | some (.ex x e) => some (.ex x e)
  | some (.ok o e) => match o.rd e with
    | some (.bl false) => fb e
    | some (.bl true) => some (.ok (.t (.z (.bl true))) e)
    | _ => none
@[simp] def gNot : List D → Option D
  | [d] => match gTru d with
    | some b => some (.bl (!b))
    | none => none
  | _ => none
def sIf (fc : EM Bool) (fa fb : EM Opd) : EM Opd := fun env => match fc env with
  | none => none
  | some (.ex x e) => some (.ex x e)
  | some (.ok b e) => if b = true then fa e else fb e
section
variable {K : PySem.W.Frag} {W : WX} {σ : L2.St} {H : Hp} {p1 p2 p3 : Bool} {fa fb : EM Opd} {tc : EM Bool}
theorem PostE.then {σ : L2.St} {Q : VK} {Z H Z1 H1 : Hp} {F F1 : List Addr} {env e : En} {r : Res Opd} (post : PostE K W (p1 && p2) σ Q Z H F env r) (x1 : Ext Z H F Z1 H1 F1) (pp1 : p1 = true → e = env ∧ F1 = F ∧ Z1 = Z ∧ Grow H H1) : PostE K W p2 σ Q Z1 H1 F1 e r := by
  cases r with
  | ok o e2 =>
    refine fun v H2 Z2 F2 G x2 ok2 er2 or2 pp2 => post v H2 Z2 F2 G (x1.trans x2) ok2 er2 or2 fun hp => ?_
    simp only [Bool.and_eq_true] at hp
    obtain ⟨a1, a2, a3⟩ := pp1 hp.1
    obtain ⟨b1, b2, b3⟩ := pp2 hp.2
    exact ⟨b1.trans a1, b2.trans a2, b3.1.trans a3.1, fun a u h => b3.2 a u (a3.2 a u h)⟩
  | ex x e2 => exact fun d H2 Z2 F2 x2 ok2 er2 xr => post d H2 Z2 F2 (x1.trans x2) ok2 er2 xr
theorem andV_ok {Q : VK} (h : tQ K W (p1 && p2) (sAndV fa fb) σ H Q) : tAndV (tQ K W p1 fa) (tQ K W p2 fb) σ H Q := by
  obtain ⟨Z, env, F, ok, er, r, hr, post⟩ := h
  unfold sAndV at hr
  split at hr
  · cases hr
  · rename_i x e hf
    cases hr
    exact ⟨Z, env, F, ok, er, _, hf, post⟩
  · rename_i o e hf
    split at hr
    · rename_i hd
      refine ⟨Z, env, F, ok, er, _, hf, fun v H1 Z1 F1 G1 x1 ok1 er1 or1 pp1 => ⟨true, (or1.look ok1.sub er1 hd).v_bl, ?_⟩⟩
      refine iteT ?_
      exact ⟨Z1, e, F1, ok1.left, er1, r, hr, post.then (x1.sub fun a ha => List.mem_append_left _ ha) pp1⟩
    · rename_i hd
      cases hr
      refine ⟨Z, env, F, ok, er, _, hf, fun v H1 Z1 F1 G1 x1 ok1 er1 or1 pp1 => ⟨false, (or1.look ok1.sub er1 hd).v_bl, ?_⟩⟩
      refine iteF ?_
      exact post _ H1 Z1 F1 [] (by simpa using x1.sub fun a ha => List.mem_append_left _ ha) (by simpa using ok1.left) er1 (.t (.z .bl)) fun hp => pp1 (by simp only [Bool.and_eq_true] at hp; exact hp.1)
    · cases hr
theorem orV_ok {Q : VK} (h : tQ K W (p1 && p2) (sOrV fa fb) σ H Q) : tOrV (tQ K W p1 fa) (tQ K W p2 fb) σ H Q := by
  obtain ⟨Z, env, F, ok, er, r, hr, post⟩ := h
  unfold sOrV at hr
  split at hr
  · cases hr
  · rename_i x e hf
    cases hr
    exact ⟨Z, env, F, ok, er, _, hf, post⟩
  · rename_i o e hf
    split at hr
    · rename_i hd
      refine ⟨Z, env, F, ok, er, _, hf, fun v H1 Z1 F1 G1 x1 ok1 er1 or1 pp1 => ⟨false, (or1.look ok1.sub er1 hd).v_bl, ?_⟩⟩
      refine iteF ?_
      exact ⟨Z1, e, F1, ok1.left, er1, r, hr, post.then (x1.sub fun a ha => List.mem_append_left _ ha) pp1⟩
    · rename_i hd
      cases hr
      refine ⟨Z, env, F, ok, er, _, hf, fun v H1 Z1 F1 G1 x1 ok1 er1 or1 pp1 => ⟨true, (or1.look ok1.sub er1 hd).v_bl, ?_⟩⟩
      refine iteT ?_
      exact post _ H1 Z1 F1 [] (by simpa using x1.sub fun a ha => List.mem_append_left _ ha) (by simpa using ok1.left) er1 (.t (.z .bl)) fun hp => pp1 (by simp only [Bool.and_eq_true] at hp; exact hp.1)
    · cases hr
theorem if_ok {Q : VK} (h : tQ K W (p1 && (p2 && p3)) (sIf tc fa fb) σ H Q) : tIf (tTQ K W p1 tc) (tQ K W p2 fa) (tQ K W p3 fb) σ H Q := by
  obtain ⟨Z, env, F, ok, er, r, hr, post⟩ := h
  unfold sIf at hr
  split at hr
  · cases hr
  · rename_i x e hf
    cases hr
    exact ⟨Z, env, F, ok, er, _, hf, post⟩
  · rename_i b e hf
    refine ⟨Z, env, F, ok, er, _, hf, fun H1 Z1 F1 x1 ok1 er1 pp1 => ?_⟩
    have post' : PostE K W (p2 && p3) σ Q Z1 H1 F1 e r := post.then x1 pp1
    cases b with
    | true =>
      rw [if_pos rfl] at hr
      refine iteT ?_
      refine ⟨Z1, e, F1, ok1, er1, r, hr, ?_⟩
      cases r with
      | ok o e2 => exact fun v H' Z' F' G a b c d pp => post' v H' Z' F' G a b c d fun hp => pp (by simp only [Bool.and_eq_true] at hp; exact hp.1)
      | ex x e2 => exact post'
    | false =>
      rw [if_neg Bool.false_ne_true] at hr
      refine iteF ?_
      refine ⟨Z1, e, F1, ok1, er1, r, hr, ?_⟩
      cases r with
      | ok o e2 => exact fun v H' Z' F' G a b c d pp => post' v H' Z' F' G a b c d fun hp => pp (by simp only [Bool.and_eq_true] at hp; exact hp.2)
      | ex x e2 => exact post'
end
theorem link_not {K : PySem.W.Frag} : Link K (oS gNot) (fun xs H Q => ∃ k, TruV K (xs.getD 0 .non) H k ∧ Q (.bl (!k)) H) := by
  refine link_S fun H xs ds d Q r e q => ?_
  unfold gNot at e
  split at e
  · split at e
    · rename_i b hb
      cases e
      obtain ⟨x, rfl, r1⟩ := r.one
      exact ⟨b, gTru_ok r1 hb, q⟩
    · cases e
  · cases e
section
variable {X : Cx} {W : WX} {a b c : Expr} {rest : List Expr} {pos : Pos} {p p1 p2 p3 : Bool} {fa fb fc : EM Opd} {ta tb tc : EM Bool}
theorem pq_one {op} (h : PQ X W p a fa) : PQ X W p (.BoolOp op [a] pos) fa := pe_one h
theorem pq_and (ha : PQ X W p1 a fa) (hb : PQ X W p2 (.BoolOp .And (b :: rest) pos) fb) : PQ X W (p1 && p2) (.BoolOp .And (a :: b :: rest) pos) (sAndV fa fb) := (pe_and ha hb).imp fun _ _ _ h => andV_ok h
theorem pq_or (ha : PQ X W p1 a fa) (hb : PQ X W p2 (.BoolOp .Or (b :: rest) pos) fb) : PQ X W (p1 && p2) (.BoolOp .Or (a :: b :: rest) pos) (sOrV fa fb) := (pe_or ha hb).imp fun _ _ _ h => orV_ok h
theorem pq_not (ha : PQ X W p a fa) : PQ X W p (.UnaryOp .Not a pos) (sO (oS gNot) (sCons true fa sNil)) := (pe_notT ha).imp fun _ _ _ h => one_ok (o_ok (link_not (K := X.K)) h)
theorem pq_if (hc : PTQ X W p1 c tc) (ha : PQ X W p2 a fa) (hb : PQ X W p3 b fb) : PQ X W (p1 && (p2 && p3)) (.IfExp c a b pos) (sIf tc fa fb) := (pe_ifExp hc ha hb).imp fun _ _ _ h => if_ok h
end
end DL

/-! DL6: statements. -/
namespace DL
open PySem PySem.Spec PyProof.Rows L2

inductive Out where
  | nx (e : En) | bk (e : En) | ct (e : En) | rt (t : T) (e : En) | ex (x : Exc) (e : En)
abbrev SM := En → Option Out
def Pin (P : List Nat) (σ σ' : L2.St) : Prop := σ'.length = σ.length ∧ ∀ i ∈ P, σ'[i]? = σ[i]?
theorem Pin.refl {P : List Nat} {σ : L2.St} : Pin P σ σ := ⟨rfl, fun _ _ => rfl⟩
theorem Pin.trans {P : List Nat} {σ σ1 σ2 : L2.St} (a : Pin P σ σ1) (b : Pin P σ1 σ2) : Pin P σ σ2 := ⟨b.1.trans a.1, fun i h => (b.2 i h).trans (a.2 i h)⟩
theorem Pin.sub {P P' : List Nat} {σ σ1 : L2.St} (a : Pin P' σ σ1) (h : ∀ i ∈ P, i ∈ P') : Pin P σ σ1 := ⟨a.1, fun i m => a.2 i (h i m)⟩
theorem Pin.set {P : List Nat} {σ : L2.St} {i : Nat} {v : Option V} (h : i ∉ P) : Pin P σ (σ.set i v) := ⟨by simp, fun j m => by
  rw [List.getElem?_set_ne (fun (e : i = j) => h (by rw [e]; exact m))]⟩

def PostS (K : PySem.W.Frag) (W : WX) (P : List Nat) (D : Ends) (σ : L2.St) (Z H : Hp) (F : List Addr) : Out → Prop
  | .nx e => ∀ σ' H' Z' F', Ext Z H F Z' H' F' → Ok Z' H' F' → EnvR K Z' H' e σ' F' → Pin P σ σ' → D.nx σ' H'
  | .bk e => ∀ σ' H' Z' F', Ext Z H F Z' H' F' → Ok Z' H' F' → EnvR K Z' H' e σ' F' → Pin P σ σ' → D.bk σ' H'
  | .ct e => ∀ σ' H' Z' F', Ext Z H F Z' H' F' → Ok Z' H' F' → EnvR K Z' H' e σ' F' → Pin P σ σ' → D.ct σ' H'
  | .rt t e => ∀ v σ' H' Z' F' G, Ext Z H F Z' H' (F' ++ G) → Ok Z' H' (F' ++ G) → EnvR K Z' H' e σ' F' → RepT K Z' H' t v G → Pin P σ σ' → D.rt v H'
  | .ex x e => ∀ d σ' H' Z' F', Ext Z H F Z' H' F' → Ok Z' H' F' → EnvR K Z' H' e σ' F' → ExR K Z' H' x d → Pin P σ σ' → W (.ref x.C) d σ' H'
def tS (K : PySem.W.Frag) (W : WX) (P : List Nat) (g : SM) : TS := fun D σ H =>
  ∃ Z env F, Ok Z H F ∧ EnvR K Z H env σ F ∧ ∃ o, g env = some o ∧ PostS K W P D σ Z H F o
abbrev PSQ (X : Cx) (W : WX) (P : List Nat) (st : Stmt) (g : SM) : Prop := PS X st (tS X.K W P g)
abbrev PBQ (X : Cx) (W : WX) (P : List Nat) (st : List Stmt) (g : SM) : Prop := PSs X st (tS X.K W P g)
theorem _root_.L2.PS.imp {X : Cx} {st : Stmt} {t t' : TS} (h : PS X st t) (i : ∀ D σ H, t' D σ H → t D σ H) : PS X st t' := ⟨fun pins s σ H D I q => h.run pins s σ H D I (i D σ H q)⟩
theorem _root_.L2.PSs.imp {X : Cx} {st : List Stmt} {t t' : TS} (h : PSs X st t) (i : ∀ D σ H, t' D σ H → t D σ H) : PSs X st t' := ⟨fun pins s σ H D I q => h.run pins s σ H D I (i D σ H q)⟩

section
variable {K : PySem.W.Frag} {W : WX} {P : List Nat} {D : Ends} {σ : L2.St} {Z H : Hp} {F : List Addr}
theorem PostS.then {σ1 : L2.St} {Z1 H1 : Hp} {F1 : List Addr} {o : Out} (post : PostS K W P D σ Z H F o) (x : Ext Z H F Z1 H1 F1) (pn : Pin P σ σ1) : PostS K W P D σ1 Z1 H1 F1 o := by
  cases o with
  | nx e => exact fun σ' H' Z' F' a b c d => post σ' H' Z' F' (x.trans a) b c (pn.trans d)
  | bk e => exact fun σ' H' Z' F' a b c d => post σ' H' Z' F' (x.trans a) b c (pn.trans d)
  | ct e => exact fun σ' H' Z' F' a b c d => post σ' H' Z' F' (x.trans a) b c (pn.trans d)
  | rt t e => exact fun v σ' H' Z' F' G a b c d f => post v σ' H' Z' F' G (x.trans a) b c d (pn.trans f)
  | ex y e => exact fun d σ' H' Z' F' a b c f g => post d σ' H' Z' F' (x.trans a) b c f (pn.trans g)
theorem tS_at {env : En} {g : SM} {o : Out} (ok : Ok Z H F) (er : EnvR K Z H env σ F) (e : g env = some o) (post : PostS K W P D σ Z H F o) : tS K W P g D σ H := ⟨Z, env, F, ok, er, o, e, post⟩
end

/-! ### blocks -/
def sNext : SM := fun env => some (.nx env)
def sSeq (g h : SM) : SM := fun env => match g env with
  | some (.nx e) => h e
  | r => r
section
variable {X : Cx} {W : WX} {P : List Nat} {st : Stmt} {rest : List Stmt} {g h : SM}
theorem seq_ok {K : PySem.W.Frag} {D : Ends} {σ : L2.St} {H : Hp} (q : tS K W P (sSeq g h) D σ H) : tSeq (tS K W P g) (tS K W P h) D σ H := by
  obtain ⟨Z, env, F, ok, er, o, ho, post⟩ := q
  unfold sSeq at ho
  split at ho
  · rename_i e hg
    exact ⟨Z, env, F, ok, er, _, hg, fun σ' H' Z' F' a b c d => ⟨Z', e, F', b, c, o, ho, post.then a d⟩⟩
  · rename_i hn
    refine ⟨Z, env, F, ok, er, o, ho, ?_⟩
    cases o with
    | nx e => exact absurd ho (hn e)
    | bk e => exact post
    | ct e => exact post
    | rt t e => exact post
    | ex x e => exact post
theorem psq_nil : PBQ X W P [] sNext := by
  refine pss_nil.imp fun D σ H ⟨Z, env, F, ok, er, o, ho, post⟩ => ?_
  cases ho
  exact post σ H Z F Ext.refl ok er Pin.refl
theorem psq_cons (h1 : PSQ X W P st g) (h2 : PBQ X W P rest h) : PBQ X W P (st :: rest) (sSeq g h) := (pss_cons h1 h2).imp fun _ _ _ q => seq_ok q
theorem psq_one (h1 : PSQ X W P st g) : PBQ X W P [st] g := pss_one h1
theorem psq_pass {pos : Pos} : PSQ X W P (.Pass pos) sNext := by
  refine ps_pass.imp fun D σ H ⟨Z, env, F, ok, er, o, ho, post⟩ => ?_
  cases ho
  exact post σ H Z F Ext.refl ok er Pin.refl
def sBreak : SM := fun env => some (.bk env)
def sCont : SM := fun env => some (.ct env)
theorem psq_break {pos : Pos} : PSQ X W P (.Break pos) sBreak := by
  refine ps_break.imp fun D σ H ⟨Z, env, F, ok, er, o, ho, post⟩ => ?_
  cases ho
  exact post σ H Z F Ext.refl ok er Pin.refl
theorem psq_cont {pos : Pos} : PSQ X W P (.Continue pos) sCont := by
  refine ps_continue.imp fun D σ H ⟨Z, env, F, ok, er, o, ho, post⟩ => ?_
  cases ho
  exact post σ H Z F Ext.refl ok er Pin.refl
theorem psq_doc {x j} {pos pos' : Pos} : PSQ X W P (.Expr (.Constant (.str x) j pos) pos') sNext := by
  refine ps_doc.imp fun D σ H ⟨Z, env, F, ok, er, o, ho, post⟩ => ?_
  cases ho
  exact post σ H Z F Ext.refl ok er Pin.refl
end

/-! ### operands taken -/
@[simp] def Opd.take (env : En) : Opd → Option (T × En)
  | .t u => some (u, env)
  | .k d => if d.imm = true then some (.z d, env) else none
  | .s i => match env[i]? with
    | some (some (.z d)) => some (.z d, env)
    | some (some u) => some (.z u.er, env.set i (some (.z u.er)))
    | _ => none
/-- behind return: a name's value goes with it -/
@[simp] def Opd.mv (env : En) : Opd → Option (T × En)
  | .t u => some (u, env)
  | .k d => if d.imm = true then some (.z d, env) else none
  | .s i => match env[i]? with
    | some (some u) => some (u, env.set i none)
    | _ => none
section
variable {K : PySem.W.Frag} {σ : L2.St} {Z H : Hp} {F G : List Addr} {env env' : En} {o : Opd} {t : T} {v : V}
theorem Ext.subF {F' : List Addr} (h : ∀ a ∈ F', a ∈ F) : Ext Z H F Z H F' := ⟨fun _ _ h => h, fun _ _ h _ => h, fun a m => .inl (h a m), fun _ _ h => .inl h⟩
theorem mv_ok (ok : Ok Z H (F ++ G)) (er : EnvR K Z H env σ F) (r : OpdR K Z H σ o v G) (e : o.mv env = some (t, env')) :
    ∃ F' G', Ext Z H (F ++ G) Z H (F' ++ G') ∧ Ok Z H (F' ++ G') ∧ EnvR K Z H env' σ F' ∧ RepT K Z H t v G' := by
  cases r with
  | t r =>
    simp only [Opd.mv, Option.some.injEq, Prod.mk.injEq] at e
    obtain ⟨rfl, rfl⟩ := e
    exact ⟨F, G, Ext.refl, ok, er, r⟩
  | k r =>
    simp only [Opd.mv] at e
    split at e
    · rename_i hi
      simp only [Option.some.injEq, Prod.mk.injEq] at e
      obtain ⟨rfl, rfl⟩ := e
      exact ⟨F, [], Ext.refl, ok, er, .z (r.imm (fun _ _ z => z) hi)⟩
    · cases e
  | @s i v h =>
    simp only [Opd.mv] at e
    split at e
    · rename_i u q
      simp only [Option.some.injEq, Prod.mk.injEq] at e
      obtain ⟨rfl, rfl⟩ := e
      obtain ⟨A, Fi, B, o, e1, e2, e3, e4⟩ := er.lens q
      rw [h] at e2
      have e2' := Option.some.inj e2
      subst e2'
      cases e3 with
      | so r =>
        have er' := e4 Z H (fun _ _ z => z) (fun _ _ z => z) (fun _ _ _ z => z) none (some v) [] .no
        have hσ : σ.set i (some v) = σ := by
          apply List.ext_getElem?
          intro j
          by_cases hj : i = j
          · subst hj
            obtain ⟨hl, _⟩ := List.getElem?_eq_some_iff.mp h
            rw [List.getElem?_set_self hl, h]
          · rw [List.getElem?_set_ne hj]
        rw [hσ] at er'
        subst e1
        have pm : (A ++ Fi ++ B).Perm (A ++ [] ++ B ++ Fi) := by
          simp only [List.append_nil, List.append_assoc]
          exact List.Perm.append_left A List.perm_append_comm
        exact ⟨A ++ [] ++ B, Fi, Ext.subF fun a ha => by simp only [List.append_nil] ; exact pm.mem_iff.mpr ha, (by simpa using ok : Ok Z H (A ++ Fi ++ B)).perm pm, er', r⟩
    · cases e
/-- a slot is frozen -/
theorem freeze_ok {i : Nat} {u : T} (ok : Ok Z H (F ++ G)) (er : EnvR K Z H env σ F) (e : env[i]? = some (some u)) :
    ∃ Z' F' v, σ[i]? = some (some v) ∧ Ext Z H (F ++ G) Z' H (F' ++ G) ∧ Ok Z' H (F' ++ G) ∧ EnvR K Z' H (env.set i (some (.z u.er))) σ F' ∧ Rep K Z' H u.er v := by
  obtain ⟨A, Fi, B, o, e1, e2, e3, e4⟩ := er.lens e
  cases e3 with
  | @so _ v _ r =>
    have hσ : σ.set i (some v) = σ := by
      apply List.ext_getElem?
      intro j
      by_cases hj : i = j
      · subst hj
        obtain ⟨hl, _⟩ := List.getElem?_eq_some_iff.mp e2
        rw [List.getElem?_set_self hl, e2]
      · rw [List.getElem?_set_ne hj]
    subst e1
    let Z' : Hp := fun a => if a ∈ Fi then H a else Z a
    have zz : ∀ a o, Z a = some o → Z' a = some o := fun a o h => by
      show (if a ∈ Fi then H a else Z a) = some o
      split
      · exact ok.sub a o h
      · exact h
    have rz : Rep K Z' H u.er v := r.frz zz fun a ha o h => by
      show (if a ∈ Fi then H a else Z a) = some o
      rw [if_pos ha]; exact h
    have er' := e4 Z' H zz (fun _ _ z => z) (fun _ _ _ z => z) (some (.z u.er)) (some v) [] (.so (.z rz))
    rw [hσ] at er'
    have nd := ok.nod
    refine ⟨Z', A ++ [] ++ B, v, e2, ⟨zz, fun _ _ h _ => h, fun a m => .inl ?_, fun a o h => ?_⟩, ⟨fun a o h => ?_, ?_, fun a m => ?_, fun a m => ok.mu a ?_⟩, er', rz⟩
    · simp only [List.append_nil, List.mem_append] at m ⊢
      rcases m with (m | m) | m
      · exact .inl (.inl (.inl m))
      · exact .inl (.inr m)
      · exact .inr m
    · have h' : (if a ∈ Fi then H a else Z a) = some o := h
      split at h'
      · rename_i hm
        exact .inr (.inl (by simp [hm]))
      · exact .inl h'
    · have h' : (if a ∈ Fi then H a else Z a) = some o := h
      split at h'
      · exact h'
      · exact ok.sub a o h'
    · simp only [List.append_nil]
      refine nd.sublist ?_
      simp only [List.append_assoc]
      exact List.Sublist.append_left (List.sublist_append_right _ _) A
    · show (if a ∈ Fi then H a else Z a) = none
      rw [if_neg]
      · refine ok.dis a ?_
        simp only [List.append_nil, List.mem_append] at m ⊢
        rcases m with (m | m) | m
        · exact .inl (.inl (.inl m))
        · exact .inl (.inr m)
        · exact .inr m
      · intro hm
        simp only [List.append_assoc, List.nodup_append, List.mem_append] at nd
        simp only [List.append_nil, List.mem_append] at m
        rcases m with (m | m) | m
        · exact nd.2.2 a m a (.inl hm) rfl
        · exact nd.2.1.2.2 a hm a (.inl m) rfl
        · exact nd.2.1.2.2 a hm a (.inr m) rfl
    · simp only [List.append_nil, List.mem_append] at m ⊢
      rcases m with (m | m) | m
      · exact .inl (.inl (.inl m))
      · exact .inl (.inr m)
      · exact .inr m
theorem take_ok (ok : Ok Z H (F ++ G)) (er : EnvR K Z H env σ F) (r : OpdR K Z H σ o v G) (e : o.take env = some (t, env')) :
    ∃ Z' F' G', Ext Z H (F ++ G) Z' H (F' ++ G') ∧ Ok Z' H (F' ++ G') ∧ EnvR K Z' H env' σ F' ∧ RepT K Z' H t v G' := by
  cases r with
  | t r =>
    simp only [Opd.take, Option.some.injEq, Prod.mk.injEq] at e
    obtain ⟨rfl, rfl⟩ := e
    exact ⟨Z, F, G, Ext.refl, ok, er, r⟩
  | k r =>
    simp only [Opd.take] at e
    split at e
    · rename_i hi
      simp only [Option.some.injEq, Prod.mk.injEq] at e
      obtain ⟨rfl, rfl⟩ := e
      exact ⟨Z, F, [], Ext.refl, ok, er, .z (r.imm (fun _ _ z => z) hi)⟩
    · cases e
  | @s i v h =>
    simp only [Opd.take] at e
    split at e
    · rename_i d q
      simp only [Option.some.injEq, Prod.mk.injEq] at e
      obtain ⟨rfl, rfl⟩ := e
      obtain ⟨v', Fi, h1, h2, _⟩ := er.at q
      rw [h] at h1; cases h1
      cases h2 with
      | z h2 => exact ⟨Z, F, [], Ext.refl, ok, er, .z h2⟩
    · rename_i u _ q
      simp only [Option.some.injEq, Prod.mk.injEq] at e
      obtain ⟨rfl, rfl⟩ := e
      obtain ⟨Z', F', v', h1, h2, h3, h4, h5⟩ := freeze_ok ok er q
      rw [h] at h1; cases h1
      exact ⟨Z', F', [], h2, h3, h4, .z h5⟩
    · cases e
end

/-! ### assignment to a name, return, an expression -/
def sSet (i : Nat) (f : EM Opd) : SM := fun env => match f env with
  | none => none
  | some (.ex x e) => some (.ex x e)
  | some (.ok o e) => match o.take e with
    | none => none
    | some (t, e') => if i < e'.length then some (.nx (e'.set i (some t))) else none
def sRet (f : EM Opd) : SM := fun env => match f env with
  | none => none
  | some (.ex x e) => some (.ex x e)
  | some (.ok o e) => match o.mv e with
    | none => none
    | some (t, e') => some (.rt t e')
def sRetN : SM := fun env => some (.rt (.z .non) env)
def sDrop (f : EM Opd) : SM := fun env => match f env with
  | none => none
  | some (.ex x e) => some (.ex x e)
  | some (.ok _ e) => some (.nx e)
def sIfS (fc : EM Bool) (g h : SM) : SM := fun env => match fc env with
  | none => none
  | some (.ex x e) => some (.ex x e)
  | some (.ok b e) => if b = true then g e else h e
section
variable {K : PySem.W.Frag} {W : WX} {P : List Nat} {D : Ends} {σ : L2.St} {H : Hp} {p : Bool} {f : EM Opd} {fc : EM Bool} {g h : SM} {i : Nat}
theorem EnvR.put {Z : Hp} {F G : List Addr} {env : En} {t : T} {v : V} (ok : Ok Z H (F ++ G)) (er : EnvR K Z H env σ F) (r : RepT K Z H t v G) (hi : i < env.length) :
    ∃ F', Ext Z H (F ++ G) Z H F' ∧ Ok Z H F' ∧ EnvR K Z H (env.set i (some t)) (σ.set i (some v)) F' := by
  obtain ⟨A, Fi, B, o, e1, e2, e3, e4⟩ := er.lens (i := i) (e := env[i]) (by simp [hi])
  have er' := e4 Z H (fun _ _ z => z) (fun _ _ z => z) (fun _ _ _ z => z) (some t) (some v) G (.so r)
  subst e1
  have pm : (A ++ G ++ B).Perm (A ++ B ++ G) := by
    simp only [List.append_assoc]
    exact List.Perm.append_left A List.perm_append_comm
  have sl : (A ++ B ++ G).Sublist (A ++ Fi ++ B ++ G) := by
    simp only [List.append_assoc]
    exact List.Sublist.append_left (List.sublist_append_right _ _) A
  exact ⟨A ++ G ++ B, Ext.subF fun a ha => sl.subset (pm.mem_iff.mp ha), (ok.subF sl).perm pm.symm, er'⟩
theorem asg_ok (hP : i ∉ P) (q : tS K W P (sSet i f) D σ H) : tQ K W false f σ H fun x H1 => D.nx (σ.set i (some x)) H1 := by
  obtain ⟨Z, env, F, ok, er, o, ho, post⟩ := q
  unfold sSet at ho
  split at ho
  · cases ho
  · rename_i x e hf
    cases ho
    exact ⟨Z, env, F, ok, er, _, hf, fun d H' Z' F' a b c f => post d σ H' Z' F' a b c f Pin.refl⟩
  · rename_i o e hf
    split at ho
    · cases ho
    · rename_i t e' ht
      split at ho
      · rename_i hi
        cases ho
        refine ⟨Z, env, F, ok, er, _, hf, fun v H1 Z1 F1 G1 x1 ok1 er1 or1 _ => ?_⟩
        obtain ⟨Z2, F2, G2, x2, ok2, er2, r2⟩ := take_ok ok1 er1 or1 ht
        obtain ⟨F3, x3, ok3, er3⟩ := er2.put ok2 r2 hi
        exact post _ H1 Z2 F3 ((x1.trans x2).trans x3) ok3 er3 (Pin.set hP)
      · cases ho
theorem ret_ok (q : tS K W P (sRet f) D σ H) : tQ K W false f σ H D.rt := by
  obtain ⟨Z, env, F, ok, er, o, ho, post⟩ := q
  unfold sRet at ho
  split at ho
  · cases ho
  · rename_i x e hf
    cases ho
    exact ⟨Z, env, F, ok, er, _, hf, fun d H' Z' F' a b c f => post d σ H' Z' F' a b c f Pin.refl⟩
  · rename_i o e hf
    split at ho
    · cases ho
    · rename_i t e' ht
      cases ho
      refine ⟨Z, env, F, ok, er, _, hf, fun v H1 Z1 F1 G1 x1 ok1 er1 or1 _ => ?_⟩
      obtain ⟨F2, G2, x2, ok2, er2, r2⟩ := mv_ok ok1 er1 or1 ht
      exact post v σ H1 Z1 F2 G2 (x1.trans x2) ok2 er2 r2 Pin.refl
theorem drop_ok (q : tS K W P (sDrop f) D σ H) : tQ K W false f σ H fun _ H1 => D.nx σ H1 := by
  obtain ⟨Z, env, F, ok, er, o, ho, post⟩ := q
  unfold sDrop at ho
  split at ho
  · cases ho
  · rename_i x e hf
    cases ho
    exact ⟨Z, env, F, ok, er, _, hf, fun d H' Z' F' a b c f => post d σ H' Z' F' a b c f Pin.refl⟩
  · rename_i o e hf
    cases ho
    exact ⟨Z, env, F, ok, er, _, hf, fun v H1 Z1 F1 G1 x1 ok1 er1 or1 _ => post σ H1 Z1 F1 (x1.sub fun a ha => List.mem_append_left _ ha) ok1.left er1 Pin.refl⟩
theorem ifS_ok (q : tS K W P (sIfS fc g h) D σ H) : tIfS (tTQ K W false fc) (tS K W P g) (tS K W P h) D σ H := by
  obtain ⟨Z, env, F, ok, er, o, ho, post⟩ := q
  unfold sIfS at ho
  split at ho
  · cases ho
  · rename_i x e hf
    cases ho
    exact ⟨Z, env, F, ok, er, _, hf, fun d H' Z' F' a b c f => post d σ H' Z' F' a b c f Pin.refl⟩
  · rename_i b e hf
    refine ⟨Z, env, F, ok, er, _, hf, fun H1 Z1 F1 x1 ok1 er1 _ => ?_⟩
    cases b with
    | true =>
      rw [if_pos rfl] at ho
      exact iteT ⟨Z1, e, F1, ok1, er1, o, ho, post.then x1 Pin.refl⟩
    | false =>
      rw [if_neg Bool.false_ne_true] at ho
      exact iteF ⟨Z1, e, F1, ok1, er1, o, ho, post.then x1 Pin.refl⟩
end
/-- pure or not -/
theorem tQ_any {K : PySem.W.Frag} {W : WX} {p : Bool} {f : EM Opd} {σ : L2.St} {H : Hp} {Q : VK} (h : tQ K W false f σ H Q) : tQ K W p f σ H Q := by
  obtain ⟨Z, env, F, ok, er, r, hr, post⟩ := h
  refine ⟨Z, env, F, ok, er, r, hr, ?_⟩
  cases p with
  | false => exact post
  | true => exact post.weak
theorem tTQ_any {K : PySem.W.Frag} {W : WX} {p : Bool} {f : EM Bool} {σ : L2.St} {H : Hp} {Q : Bool → Hp → Prop} (h : tTQ K W false f σ H Q) : tTQ K W p f σ H Q := by
  obtain ⟨Z, env, F, ok, er, r, hr, post⟩ := h
  refine ⟨Z, env, F, ok, er, r, hr, ?_⟩
  cases r with
  | ok b e => exact fun H' Z' F' a b c _ => post H' Z' F' a b c fun z => nomatch z
  | ex x e => exact post
section
variable {X : Cx} {W : WX} {P : List Nat} {e : Expr} {c : Expr} {a b : List Stmt} {pos pos' : Pos} {x : Str} {i : Nat} {p : Bool} {f : EM Opd} {fc : EM Bool} {g h : SM}
theorem psq_set (hN : X.N.Nodup) (hi : X.N[i]? = some x) (hx : Loc X.env.scope x) (he : PQ X W p e f) (hP : i ∉ P := by decide) (hs : swapsWith e (some (.Name x pos')) pos.line X.env = pure false := by rfl) (hf : X.fn x = true ∨ X.env.scope.names.lookup x = some .local := by first | exact .inl rfl | exact .inr rfl | assumption) :
    PSQ X W P (.Assign [.Name x pos'] e pos) (sSet i f) :=
  (ps_set hN hi hx he hs hf).imp fun D σ H q => tQ_any (asg_ok hP q)
theorem psq_ret (he : PQ X W p e f) : PSQ X W P (.Return (some e) pos) (sRet f) := (ps_ret he).imp fun D σ H q => tQ_any (ret_ok q)
theorem psq_retN : PSQ X W P (.Return none pos) sRetN := by
  refine ps_retN.imp fun D σ H ⟨Z, env, F, ok, er, o, ho, post⟩ => ?_
  cases ho
  exact post .non σ H Z F [] (by simpa using Ext.refl) (by simpa using ok) er (.z .non) Pin.refl
theorem psq_expr (he : PQ X W p e f) (hs : swapsWith e none pos.line X.env = pure false := by rfl) : PSQ X W P (.Expr e pos) (sDrop f) := (ps_expr he hs).imp fun D σ H q => tQ_any (drop_ok q)
theorem psq_if (hc : PTQ X W p c fc) (ha : PBQ X W P a g) (hb : PBQ X W P b h) : PSQ X W P (.If c a b pos) (sIfS fc g h) := (ps_if (hc.imp fun _ _ _ z => tTQ_any z : PTQ X W false c fc) ha hb).imp fun D σ H q => ifS_ok q
end
end DL

/-! DL7: loops. -/
namespace DL
open PySem PySem.Spec PyProof.Rows L2

/-! ### while -/
def whileStep (fc : EM Bool) (g : SM) (r : SM) : SM := fun env => match fc env with
  | none => none
  | some (.ex x e) => some (.ex x e)
  | some (.ok false e) => some (.nx e)
  | some (.ok true e) => match g e with
    | some (.nx e') => r e'
    | some (.ct e') => r e'
    | some (.bk e') => some (.nx e')
    | o => o
def sWhileN (fc : EM Bool) (g : SM) : Nat → SM
  | 0 => fun _ => none
  | n + 1 => whileStep fc g (sWhileN fc g n)
theorem whileN_mono {fc : EM Bool} {g : SM} : ∀ {n : Nat} {env : En} {o : Out}, sWhileN fc g n env = some o → sWhileN fc g (n + 1) env = some o
  | 0, _, _, h => by simp [sWhileN] at h
  | n + 1, env, o, h => by
    have ih := @whileN_mono fc g n
    rw [sWhileN] at h ⊢
    unfold whileStep at h ⊢
    split at h
    · cases h
    · exact h
    · exact h
    · split at h <;> first | exact ih h | exact h
theorem whileN_le {fc : EM Bool} {g : SM} {n m : Nat} {env : En} {o : Out} (h : sWhileN fc g n env = some o) (l : n ≤ m) : sWhileN fc g m env = some o := by
  induction l with
  | refl => exact h
  | step _ ih => exact whileN_mono ih
open Classical in
noncomputable def sWhile (fc : EM Bool) (g : SM) : SM := fun env => if h : ∃ n o, sWhileN fc g n env = some o then some h.choose_spec.choose else none
theorem while_of {fc : EM Bool} {g : SM} {n : Nat} {env : En} {o : Out} (h : sWhileN fc g n env = some o) : sWhile fc g env = some o := by
  have q : ∃ n o, sWhileN fc g n env = some o := ⟨n, o, h⟩
  unfold sWhile
  rw [dif_pos q]
  have e := q.choose_spec.choose_spec
  have h1 := whileN_le h (Nat.le_max_left n q.choose)
  have h2 := whileN_le e (Nat.le_max_right n q.choose)
  rw [h1] at h2
  exact h2.symm
theorem while_to {fc : EM Bool} {g : SM} {env : En} {o : Out} (h : sWhile fc g env = some o) : ∃ n, sWhileN fc g n env = some o := by
  unfold sWhile at h
  split at h
  · rename_i q
    have e := q.choose_spec.choose_spec
    cases h
    exact ⟨_, e⟩
  · cases h
/-- the equation of a while -/
theorem while_eq {fc : EM Bool} {g : SM} {env : En} {o : Out} (h : whileStep fc g (sWhile fc g) env = some o) : sWhile fc g env = some o := by
  unfold whileStep at h
  split at h
  · cases h
  · rename_i x e hf
    refine while_of (n := 1) ?_
    simp only [sWhileN, whileStep, hf]
    exact h
  · rename_i e hf
    refine while_of (n := 1) ?_
    simp only [sWhileN, whileStep, hf]
    exact h
  · rename_i e hf
    split at h
    · rename_i e' hg
      obtain ⟨n, hn⟩ := while_to h
      refine while_of (n := n + 1) ?_
      simp only [sWhileN, whileStep, hf, hg]
      exact hn
    · rename_i e' hg
      obtain ⟨n, hn⟩ := while_to h
      refine while_of (n := n + 1) ?_
      simp only [sWhileN, whileStep, hf, hg]
      exact hn
    · rename_i e' hg
      refine while_of (n := 1) ?_
      simp only [sWhileN, whileStep, hf, hg]
      exact h
    · rename_i o' h1 h2 h3
      refine while_of (n := 1) ?_
      simp only [sWhileN, whileStep, hf]
      first
        | exact h
        | (split
           · rename_i e' hg; exact (h1 e' hg).elim
           · rename_i e' hg; exact (h2 e' hg).elim
           · rename_i e' hg; exact (h3 e' hg).elim
           · exact h)
section
variable {K : PySem.W.Frag} {W : WX} {P : List Nat} {D : Ends} {σ : L2.St} {H : Hp} {fc : EM Bool} {g : SM}
theorem while_ok (q : tS K W P (sWhile fc g) D σ H) : tWhile (tTQ K W false fc) (tS K W P g) D σ H := by
  obtain ⟨Z, env, F, ok, er, o, ho, post⟩ := q
  obtain ⟨n, hn⟩ := while_to ho
  refine ⟨fun m σ' H' => ∃ Z' env' F', Ok Z' H' F' ∧ EnvR K Z' H' env' σ' F' ∧ sWhileN fc g m env' = some o ∧ PostS K W P D σ' Z' H' F' o, ⟨n, Z, env, F, ok, er, hn, post⟩, ?_⟩
  rintro m σ1 H1 ⟨Z1, env1, F1, ok1, er1, h1, post1⟩
  cases m with
  | zero => simp [sWhileN] at h1
  | succ m =>
    rw [sWhileN] at h1
    unfold whileStep at h1
    split at h1
    · cases h1
    · rename_i x e hf
      cases h1
      exact ⟨Z1, env1, F1, ok1, er1, _, hf, fun d H' Z' F' a b c f => post1 d σ1 H' Z' F' a b c f Pin.refl⟩
    · rename_i e hf
      cases h1
      refine ⟨Z1, env1, F1, ok1, er1, _, hf, fun H2 Z2 F2 x2 ok2 er2 _ => ?_⟩
      exact iteF (post1 σ1 H2 Z2 F2 x2 ok2 er2 Pin.refl)
    · rename_i e hf
      refine ⟨Z1, env1, F1, ok1, er1, _, hf, fun H2 Z2 F2 x2 ok2 er2 _ => iteT ?_⟩
      refine ⟨fun σ' H' => ∃ Z' env' F', Ok Z' H' F' ∧ EnvR K Z' H' env' σ' F' ∧ sWhileN fc g m env' = some o ∧ PostS K W P D σ' Z' H' F' o, fun σ' H' h => ⟨m, Nat.lt_succ_self _, h⟩, ?_⟩
      have post2 : PostS K W P D σ1 Z2 H2 F2 o := post1.then x2 Pin.refl
      split at h1
      · rename_i e' hg
        exact ⟨Z2, e, F2, ok2, er2, _, hg, fun σ' H' Z' F' a b c d => ⟨Z', e', F', b, c, h1, post2.then a d⟩⟩
      · rename_i e' hg
        exact ⟨Z2, e, F2, ok2, er2, _, hg, fun σ' H' Z' F' a b c d => ⟨Z', e', F', b, c, h1, post2.then a d⟩⟩
      · rename_i e' hg
        cases h1
        exact ⟨Z2, e, F2, ok2, er2, _, hg, fun σ' H' Z' F' a b c d => post2 σ' H' Z' F' a b c d⟩
      · rename_i n1 n2 n3
        refine ⟨Z2, e, F2, ok2, er2, _, h1, ?_⟩
        cases o with
        | nx e' => exact (n1 e' h1).elim
        | ct e' => exact (n2 e' h1).elim
        | bk e' => exact (n3 e' h1).elim
        | rt t e' => exact post2
        | ex x e' => exact post2
end
theorem psq_while {X : Cx} {W : WX} {P : List Nat} {c : Expr} {body : List Stmt} {pos : Pos} {p : Bool} {fc : EM Bool} {g : SM} (hp : PassesOwn (model X.prog X.w) X.A X.env X.xe) (hc : PTQ X W p c fc) (hb : PBQ X W P body g) : PSQ X W P (.While c body [] pos) (sWhile fc g) :=
  (ps_while hp (hc.imp fun _ _ _ z => tTQ_any z : PTQ X W false c fc) hb).imp fun D σ H q => while_ok q

/-! ### targets -/
abbrev GM := T → En → Option En
def tG (K : PySem.W.Frag) (P : List Nat) (s : GM) : TG := fun v σ H Q =>
  ∃ Z env F t G, Ok Z H (F ++ G) ∧ EnvR K Z H env σ F ∧ RepT K Z H t v G ∧ ∃ env', s t env = some env' ∧ ∀ σ' F', Ext Z H (F ++ G) Z H F' → Ok Z H F' → EnvR K Z H env' σ' F' → Pin P σ σ' → Q σ' H
def tGs (K : PySem.W.Frag) (P : List Nat) (s : List T → En → Option En) : TGs := fun vs σ H Q =>
  ∃ Z env F ts G, Ok Z H (F ++ G) ∧ EnvR K Z H env σ F ∧ RepTs K Z H ts vs G ∧ ∃ env', s ts env = some env' ∧ ∀ σ' F', Ext Z H (F ++ G) Z H F' → Ok Z H F' → EnvR K Z H env' σ' F' → Pin P σ σ' → Q σ' H
abbrev PGQ (X : Cx) (P : List Nat) (tg : Expr) (s : GM) : Prop := PG X tg (tG X.K P s)
def gmName (i : Nat) : GM := fun t env => if i < env.length then some (env.set i (some t)) else none
def gmNil : List T → En → Option En
  | [], env => some env
  | _ :: _, _ => none
def gmCons (s : GM) (r : List T → En → Option En) : List T → En → Option En
  | [], _ => none
  | t :: ts, env => match s t env with
    | none => none
    | some e => r ts e
def gmTup (n : Nat) (r : List T → En → Option En) : GM := fun t env => match t with
  | .z (.tup ds) => if ds.length = n then r (ds.map .z) env else none
  | .tup ts => if ts.length = n then r ts env else none
  | _ => none
theorem _root_.L2.PG.imp {X : Cx} {e : Expr} {t t' : TG} (h : PG X e t) (i : ∀ v σ H Q, t' v σ H Q → t v σ H Q) : PG X e t' := ⟨fun pins s σ H v u Q I r q => h.run pins s σ H v u Q I r (i v σ H Q q)⟩
theorem _root_.L2.PGs.imp {X : Cx} {e : List Expr} {t t' : TGs} (h : PGs X e t) (i : ∀ v σ H Q, t' v σ H Q → t v σ H Q) : PGs X e t' := ⟨fun pins s σ H v u Q I r q => h.run pins s σ H v u Q I r (i v σ H Q q)⟩
section
variable {X : Cx} {P : List Nat} {pos : Pos} {x : Str} {i : Nat}
theorem pgq_name (hN : X.N.Nodup) (hi : X.N[i]? = some x) (hx : Loc X.env.scope x) (hP : i ∉ P := by decide) (hf : X.fn x = true ∨ X.env.scope.names.lookup x = some .local := by first | exact .inl rfl | exact .inr rfl | assumption) : PGQ X P (.Name x pos) (gmName i) := by
  refine (pg_name hN hi hx hf).imp fun v σ H Q ⟨Z, env, F, t, G, ok, er, r, env', e, q⟩ => ?_
  unfold gmName at e
  split at e
  · rename_i hl
    cases e
    obtain ⟨F', x1, ok1, er1⟩ := er.put ok r hl
    exact q _ F' x1 ok1 er1 (Pin.set hP)
  · cases e
theorem pgqs_nil : PGs X [] (tGs X.K P gmNil) := by
  refine pgs_nil.imp fun vs σ H Q ⟨Z, env, F, ts, G, ok, er, r, env', e, q⟩ => ?_
  cases r with
  | nil =>
    cases e
    exact ⟨rfl, q σ F (by simpa using Ext.refl) (by simpa using ok) er Pin.refl⟩
  | cons _ _ => cases e
theorem pgqs_cons {e : Expr} {es : List Expr} {s : GM} {r : List T → En → Option En} (h1 : PGQ X P e s) (h2 : PGs X es (tGs X.K P r)) (hs : (assignEach (e :: es) X.env).map (·.2) = assign e X.env :: (assignEach es X.env).map (·.2) := by rfl) :
    PGs X (e :: es) (tGs X.K P (gmCons s r)) := by
  refine (pgs_cons h1 h2 hs).imp fun vs σ H Q ⟨Z, env, F, ts, G, ok, er, rr, env', e, q⟩ => ?_
  cases rr with
  | nil => cases e
  | @cons t v ts vs G1 G2 a b =>
    simp only [gmCons] at e
    split at e
    · cases e
    · rename_i e1 he1
      have ok' : Ok Z H ((F ++ G1) ++ G2) := by rw [List.append_assoc]; exact ok
      refine ⟨v, vs, rfl, Z, env, F, t, G1, ok'.left, er, a, e1, he1, fun σ' F' x1 ok1 er1 pn => ?_⟩
      refine ⟨Z, e1, F', ts, G2, Ok.beside x1 ok1 ok', er1, b, env', e, fun σ2 F2 x2 ok2 er2 pn2 => q σ2 F2 ?_ ok2 er2 (pn.trans pn2)⟩
      have z := (x1.wide (G := G2)).trans x2
      rw [List.append_assoc] at z
      exact z
theorem pgq_tup {es : List Expr} {k : Nat} {r : List T → En → Option En} {n : Nat} (hc : X.calm = true) (h : PGs X es (tGs X.K P r))
    (hn : (assignEach es X.env).length = n := by rfl) (hst : (assignEach es X.env).findIdx? (·.1) = none := by rfl) : PGQ X P (.Tuple es k pos) (gmTup n r) := by
  refine (pg_tup hc h hn hst).imp fun v σ H Q ⟨Z, env, F, t, G, ok, er, rr, env', e, q⟩ => ?_
  unfold gmTup at e
  split at e
  · rename_i ds
    split at e
    · rename_i hl
      cases rr with
      | z rr =>
        cases rr with
        | tup hq rr =>
          refine ⟨_, _, rfl, hq, by rw [← rr.length]; exact hl, Z, env, F, ds.map .z, [], by simpa using ok, er, reps_z rr, env', e, fun σ' F' x1 => q σ' F' (by simpa using x1)⟩
    · cases e
  · rename_i ts
    split at e
    · rename_i hl
      cases rr with
      | tup hq rr =>
        exact ⟨_, _, rfl, hq, by rw [← rr.length]; exact hl, Z, env, F, ts, G, ok, er, rr, env', e, q⟩
    · cases e
  · cases e
end
/-- target = e, any target -/
def sAsg (s : GM) (f : EM Opd) : SM := fun env => match f env with
  | none => none
  | some (.ex x e) => some (.ex x e)
  | some (.ok o e) => match o.take e with
    | none => none
    | some (t, e') => match s t e' with
      | none => none
      | some e2 => some (.nx e2)
section
variable {K : PySem.W.Frag} {W : WX} {P : List Nat} {D : Ends} {σ : L2.St} {H : Hp} {f : EM Opd} {s : GM}
theorem asgG_ok (q : tS K W P (sAsg s f) D σ H) : tQ K W false f σ H fun x H1 => tG K P s x σ H1 D.nx := by
  obtain ⟨Z, env, F, ok, er, o, ho, post⟩ := q
  unfold sAsg at ho
  split at ho
  · cases ho
  · rename_i x e hf
    cases ho
    exact ⟨Z, env, F, ok, er, _, hf, fun d H' Z' F' a b c f => post d σ H' Z' F' a b c f Pin.refl⟩
  · rename_i o e hf
    split at ho
    · cases ho
    · rename_i t e' ht
      split at ho
      · cases ho
      · rename_i e2 he2
        cases ho
        refine ⟨Z, env, F, ok, er, _, hf, fun v H1 Z1 F1 G1 x1 ok1 er1 or1 _ => ?_⟩
        obtain ⟨Z2, F2, G2, x2, ok2, er2, r2⟩ := take_ok ok1 er1 or1 ht
        exact ⟨Z2, e', F2, t, G2, ok2, er2, r2, e2, he2, fun σ' F' x3 ok3 er3 pn => post σ' H1 Z2 F' ((x1.trans x2).trans x3) ok3 er3 pn⟩
end
theorem psq_asg {X : Cx} {W : WX} {P : List Nat} {tg e : Expr} {pos : Pos} {p : Bool} {f : EM Opd} {s : GM} (he : PQ X W p e f) (hg : PGQ X P tg s) (hs : swapsWithSole [tg] e pos.line X.env = pure false := by rfl) (hw : swappedStores [tg] e X.env = pure none := by rfl)
    (h1 : (assignEach [tg] X.env).map (·.2) = [assign tg X.env] := by rfl) : PSQ X W P (.Assign [tg] e pos) (sAsg s f) :=
  (ps_asg he hg hs hw h1).imp fun D σ H q => tQ_any (asgG_ok q)

/-! ### for -/
def forF (s : GM) (g : SM) : List D → SM
  | [], env => some (.nx env)
  | d :: ds, env => match s (.z d) env with
    | none => none
    | some e1 => match g e1 with
      | some (.nx e) => forF s g ds e
      | some (.ct e) => forF s g ds e
      | some (.bk e) => some (.nx e)
      | o => o
section
variable {K : PySem.W.Frag} {W : WX} {P P' : List Nat} {D : Ends} {σ : L2.St} {Z H : Hp} {F : List Addr} {g : SM} {s : GM} {ds : List DL.D} {vs : List V} {env : En} {o : Out}
/-- a turn -/
theorem for_turn {i : Nat} {x : V} (hx : vs[i]? = some x) {σ1 : L2.St} {H1 Z1 : Hp} {F1 : List Addr} {env1 : En} (ok1 : Ok Z1 H1 F1) (er1 : EnvR K Z1 H1 env1 σ1 F1) (x1 : Ext Z H F Z1 H1 F1) (okF : Ok Z H F) (pn : Pin P' σ σ1) (rs : Reps K Z H ds vs)
    (e : forF s g (ds.drop i) env1 = some o) (post : PostS K W P' D σ Z H F o)
    (N : L2.St → Hp → Prop) (hN : ∀ σ' H' Z' F' env', Ok Z' H' F' → EnvR K Z' H' env' σ' F' → Ext Z H F Z' H' F' → Pin P' σ σ' → forF s g (ds.drop (i + 1)) env' = some o → N σ' H') :
    tG K P' s x σ1 H1 fun σ2 H2 => tS K W P' g { D with nx := N, ct := N, bk := D.nx } σ2 H2 := by
  have hi : i < ds.length := by
    rw [rs.length]
    exact (List.getElem?_eq_some_iff.mp hx).1
  obtain ⟨v, hv, rd⟩ := rs.get (i := i) (d := ds[i]) (by simp [hi])
  rw [hx] at hv
  have hv' := Option.some.inj hv
  subst hv'
  rw [List.drop_eq_getElem_cons hi] at e
  unfold forF at e
  split at e
  · cases e
  · rename_i e1 he1
    refine ⟨Z1, env1, F1, .z ds[i], [], by simpa using ok1, er1, .z (rd.mono x1.zz (x1.tt okF)), e1, he1, fun σ2 F2 x2 ok2 er2 pn2 => ?_⟩
    have x12 : Ext Z H F Z1 H1 F2 := x1.trans (by simpa using x2)
    split at e
    · rename_i e2 hg
      exact ⟨Z1, e1, F2, ok2, er2, _, hg, fun σ' H' Z' F' a b c d => hN σ' H' Z' F' e2 b c (x12.trans a) ((pn.trans pn2).trans d) e⟩
    · rename_i e2 hg
      exact ⟨Z1, e1, F2, ok2, er2, _, hg, fun σ' H' Z' F' a b c d => hN σ' H' Z' F' e2 b c (x12.trans a) ((pn.trans pn2).trans d) e⟩
    · rename_i e2 hg
      cases e
      exact ⟨Z1, e1, F2, ok2, er2, _, hg, fun σ' H' Z' F' a b c d => post σ' H' Z' F' (x12.trans a) b c ((pn.trans pn2).trans d)⟩
    · rename_i n1 n2 n3
      have pt := post.then x12 (pn.trans pn2)
      refine ⟨Z1, e1, F2, ok2, er2, _, e, ?_⟩
      cases o with
      | nx e' => exact (n1 e' e).elim
      | ct e' => exact (n2 e' e).elim
      | bk e' => exact (n3 e' e).elim
      | rt t e' => exact pt
      | ex x e' => exact pt
theorem for_listD {a : Addr} (okF : Ok Z H F) (er : EnvR K Z H env σ F) (rs : Reps K Z H ds vs) (hl : ∀ Z' H' F', Ext Z H F Z' H' F' → SqL K H' a vs) (e : forF s g ds env = some o) (post : PostS K W P' D σ Z H F o) :
    ∃ W' : Nat → Nat → L2.St → Hp → Prop, (∃ m, W' 0 m σ H) ∧ ∀ i m σ H, W' i m σ H →
      ((Itl K a).stop i H ∧ D.nx σ H) ∨ ((Itl K a).go i H ∧ ∃ N : L2.St → Hp → Prop, (∀ σ' H', N σ' H' → ∃ m', m' < m ∧ W' (i + 1) m' σ' H') ∧ ∀ x H', (Itl K a).yld i H x H' → tG K P' s x σ H' fun σ2 H2 => tS K W P' g { D with nx := N, ct := N, bk := D.nx } σ2 H2) := by
  refine for_list (K := K) (a := a) (xs := vs) (fun i σ' H' => ∃ Z' env' F', Ok Z' H' F' ∧ EnvR K Z' H' env' σ' F' ∧ Ext Z H F Z' H' F' ∧ Pin P' σ σ' ∧ forF s g (ds.drop i) env' = some o)
    ⟨Z, env, F, okF, er, Ext.refl, Pin.refl, by simpa using e⟩ (fun i σ' H' _ ⟨Z', env', F', _, _, x, _⟩ => hl Z' H' F' x) (fun i x σ1 H1 hx ⟨Z1, env1, F1, ok1, er1, x1, pn, e1⟩ => ?_) (fun σ1 H1 ⟨Z1, env1, F1, ok1, er1, x1, pn, e1⟩ => ?_)
  · exact for_turn hx ok1 er1 x1 okF pn rs e1 post _ fun σ' H' Z' F' env' a b c d f => ⟨Z', env', F', a, b, c, d, f⟩
  · rw [← rs.length, List.drop_length] at e1
    cases e1
    exact post σ1 H1 Z1 F1 x1 ok1 er1 pn
theorem for_tupD {a : Addr} (okF : Ok Z H F) (er : EnvR K Z H env σ F) (rs : Reps K Z H ds vs) (hl : ∀ Z' H' F', Ext Z H F Z' H' F' → SqT K H' a vs) (e : forF s g ds env = some o) (post : PostS K W P' D σ Z H F o) :
    ∃ W' : Nat → Nat → L2.St → Hp → Prop, (∃ m, W' 0 m σ H) ∧ ∀ i m σ H, W' i m σ H →
      ((Itt K a).stop i H ∧ D.nx σ H) ∨ ((Itt K a).go i H ∧ ∃ N : L2.St → Hp → Prop, (∀ σ' H', N σ' H' → ∃ m', m' < m ∧ W' (i + 1) m' σ' H') ∧ ∀ x H', (Itt K a).yld i H x H' → tG K P' s x σ H' fun σ2 H2 => tS K W P' g { D with nx := N, ct := N, bk := D.nx } σ2 H2) := by
  refine for_tup (K := K) (a := a) (xs := vs) (fun i σ' H' => ∃ Z' env' F', Ok Z' H' F' ∧ EnvR K Z' H' env' σ' F' ∧ Ext Z H F Z' H' F' ∧ Pin P' σ σ' ∧ forF s g (ds.drop i) env' = some o)
    ⟨Z, env, F, okF, er, Ext.refl, Pin.refl, by simpa using e⟩ (fun i σ' H' _ ⟨Z', env', F', _, _, x, _⟩ => hl Z' H' F' x) (fun i x σ1 H1 hx ⟨Z1, env1, F1, ok1, er1, x1, pn, e1⟩ => ?_) (fun σ1 H1 ⟨Z1, env1, F1, ok1, er1, x1, pn, e1⟩ => ?_)
  · exact for_turn hx ok1 er1 x1 okF pn rs e1 post _ fun σ' H' Z' F' env' a b c d f => ⟨Z', env', F', a, b, c, d, f⟩
  · rw [← rs.length, List.drop_length] at e1
    cases e1
    exact post σ1 H1 Z1 F1 x1 ok1 er1 pn
/-- lo, lo + 1, .. as data -/
def rngD (lo : Int) : Nat → List DL.D
  | 0 => []
  | n + 1 => .int lo :: rngD (lo + 1) n
theorem rngD_length (lo : Int) (n : Nat) : (rngD lo n).length = n := by
  induction n generalizing lo with
  | zero => rfl
  | succ n ih => simp [rngD, ih]
theorem rngD_get (lo : Int) (n i : Nat) (h : i < n) : (rngD lo n)[i]? = some (.int (lo + i)) := by
  induction n generalizing lo i with
  | zero => omega
  | succ n ih =>
    cases i with
    | zero => simp [rngD]
    | succ i =>
      simp only [rngD, List.getElem?_cons_succ]
      rw [ih (lo + 1) i (by omega)]
      congr 2
      push_cast
      omega
theorem for_rngD {lo : Int} {n : Nat} (okF : Ok Z H F) (er : EnvR K Z H env σ F) (e : forF s g (rngD lo n) env = some o) (post : PostS K W P' D σ Z H F o) :
    ∃ W' : Nat → Nat → L2.St → Hp → Prop, (∃ m, W' 0 m σ H) ∧ ∀ i m σ H, W' i m σ H →
      ((Itr lo n).stop i H ∧ D.nx σ H) ∨ ((Itr lo n).go i H ∧ ∃ N : L2.St → Hp → Prop, (∀ σ' H', N σ' H' → ∃ m', m' < m ∧ W' (i + 1) m' σ' H') ∧ ∀ x H', (Itr lo n).yld i H x H' → tG K P' s x σ H' fun σ2 H2 => tS K W P' g { D with nx := N, ct := N, bk := D.nx } σ2 H2) := by
  have rs : Reps K Z H (rngD lo n) ((List.range n).map fun i : Nat => V.int (lo + (i : Int))) := by
    have : ∀ (n : Nat) (lo : Int), Reps K Z H (rngD lo n) ((List.range n).map fun i : Nat => V.int (lo + (i : Int))) := by
      intro n
      induction n with
      | zero => intro lo; exact .nil
      | succ n ih =>
        intro lo
        rw [List.range_succ_eq_map, List.map_cons, List.map_map]
        refine .cons (by simpa using Rep.int) ?_
        have z := ih (lo + 1)
        have e : (List.map (fun i : Nat => V.int (lo + 1 + (i : Int))) (List.range n)) = List.map ((fun i : Nat => V.int (lo + (i : Int))) ∘ Nat.succ) (List.range n) := by
          apply List.map_congr_left
          intro i _
          simp only [Function.comp]
          congr 1
          push_cast
          omega
        rw [← e]; exact z
    exact this n lo
  refine for_range (lo := lo) (n := n) (fun i σ' H' => ∃ Z' env' F', Ok Z' H' F' ∧ EnvR K Z' H' env' σ' F' ∧ Ext Z H F Z' H' F' ∧ Pin P' σ σ' ∧ forF s g ((rngD lo n).drop i) env' = some o)
    ⟨Z, env, F, okF, er, Ext.refl, Pin.refl, by simpa using e⟩ (fun i σ1 H1 hi ⟨Z1, env1, F1, ok1, er1, x1, pn, e1⟩ => ?_) (fun σ1 H1 ⟨Z1, env1, F1, ok1, er1, x1, pn, e1⟩ => ?_)
  · exact for_turn (i := i) (by simp [hi]) ok1 er1 x1 okF pn rs e1 post _ fun σ' H' Z' F' env' a b c d f => ⟨Z', env', F', a, b, c, d, f⟩
  · have hl : (rngD lo n).drop n = [] := by rw [List.drop_eq_nil_iff, rngD_length]; exact Nat.le_refl _
    rw [hl] at e1
    cases e1
    exact post σ1 H1 Z1 F1 x1 ok1 er1 pn
end

/-! ### what a for walks -/
def iAny (K : PySem.W.Frag) (tl : TE) : TI := fun σ H R => tl σ H fun x H1 => ∃ a, x = .ref a ∧ (((∃ xs, SqL K H1 a xs) ∧ R (Itl K a) H1) ∨ ((∃ xs, SqT K H1 a xs) ∧ R (Itt K a) H1))
theorem pi_any {X : Cx} {tg l : Expr} {tl : TE} (hl : PE X l tl) : PI X tg l (iAny X.K tl) := by
  refine ⟨fun pins s σ H R I h => ?_⟩
  refine thn (hl.run pins s σ H _ I h) fun v s1 ⟨x, H1, I1, r1, q1⟩ => ?_
  obtain ⟨a, e, q⟩ := q1
  subst e
  cases r1
  rcases q with ⟨⟨xs, hq⟩, q⟩ | ⟨⟨xs, hq⟩, q⟩
  · obtain ⟨its, rv, p, hz⟩ := I1.list hq
    refine wpAny_pyIter_list p.isList ?_
    refine ⟨s1.heap.objs.size, [s1.heap.objs.size], _, _, H1, rfl, I1.kept (t' := s1.toks) fun b o e => Heap.get?_push_of_some _ e, turn_list a _, ⟨_, Heap.get?_push_size _ rfl, rfl, rfl⟩, fun b hb => ?_, q⟩
    have e : b = s1.heap.objs.size := by simpa using hb
    subst e
    exact I1.fpOk (Nat.le_refl _) (I1.hok.fresh (Nat.le_refl _))
  · obtain ⟨its, rv, p, hz⟩ := I1.tuple hq
    refine wpAny_pyIter_tuple (show s1.heap.IsTuple a its.toArray from p) ?_
    refine ⟨s1.heap.objs.size, [s1.heap.objs.size], _, _, H1, rfl, I1.kept (t' := s1.toks) fun b o e => Heap.get?_push_of_some _ e, turn_tuple a _, ⟨_, Heap.get?_push_size _ rfl, rfl, rfl⟩, fun b hb => ?_, q⟩
    have e : b = s1.heap.objs.size := by simpa using hb
    subst e
    exact I1.fpOk (Nat.le_refl _) (I1.hok.fresh (Nat.le_refl _))
@[simp] def T.els (u : T) : Option (List D) := match u.elsL with
  | some ds => some ds
  | none => match u.elsK with
    | some ds => some ds
    | none => u.elsT
def sFor (fi : EM Opd) (s : GM) (g : SM) : SM := fun env => match fi env with
  | none => none
  | some (.ex x e) => some (.ex x e)
  | some (.ok (.t u) e) => match u.els with
    | some ds => forF s g ds e
    | none => none
  | some (.ok _ _) => none
@[simp] def back (i : Nat) (u : T) : Option Out → Option Out
  | some (.nx e) => some (.nx (e.set i (some u)))
  | some (.ex x e) => some (.ex x (e.set i (some u)))
  | o => o
def sForN (i : Nat) (s : GM) (g : SM) : SM := fun env => match env[i]? with
  | some (some (.z d)) => match (T.z d).els with
    | some ds => forF s g ds env
    | none => none
  | some (some u) => match u.els with
    | some ds => back i u (forF s g ds (env.set i none))
    | none => none
  | _ => none
@[simp] noncomputable def gRng1 : List D → Option (Int × Nat)
  | [.int j] => if inB 62 j = true then some (0, j.toNat) else none
  | _ => none
@[simp] noncomputable def gRng2 : List D → Option (Int × Nat)
  | [.int i, .int j] => if inB 62 i = true ∧ inB 62 j = true then some (i, (j - i).toNat) else none
  | _ => none
def sForR (gr : List D → Option (Int × Nat)) (fr : EM (List Opd)) (s : GM) (g : SM) : SM := fun env => match fr env with
  | none => none
  | some (.ex x e) => some (.ex x e)
  | some (.ok os e) => match rds e os with
    | none => none
    | some ds => match gr ds with
      | none => none
      | some (lo, n) => forF s g (rngD lo n) e
section
variable {K : PySem.W.Frag} {Z H : Hp} {σ : L2.St} {u : T} {v : V} {G F : List Addr} {ds : List D}
/-- what a T's items are, and that the sequence stays while what is owned beside is written -/
theorem els_stay (r : RepT K Z H u v G) (ok : Ok Z H (F ++ G)) (e : u.els = some ds) : ∃ a vs, v = .ref a ∧ Reps K Z H ds vs ∧
    ((∀ Z' H' F', Ext Z H F Z' H' F' → Ok Z' H' F' → SqL K H' a vs) ∨ (∀ Z' H' F', Ext Z H F Z' H' F' → SqT K H' a vs)) := by
  have nF : ∀ a ∈ G, a ∉ F := fun a h m => (List.nodup_append.mp ok.nod).2.2 a m a h rfl
  unfold T.els at e
  split at e
  · rename_i ds' e'
    cases e
    cases r with
    | z r =>
      cases r <;> first | (simp [T.elsL] at e'; done) | skip
      rename_i a vs ds' h r
      simp only [T.elsL, Option.some.injEq] at e'; subst e'
      exact ⟨_, _, rfl, r, .inl fun Z' H' F' x ok' => SqL.of (ok'.sub _ _ (x.zz _ _ h))⟩
    | lst h r => exact ⟨_, _, rfl, zs_ok e' r, .inl fun Z' H' F' x _ => SqL.of (x.hh _ _ h (nF _ List.mem_cons_self))⟩
    | _ => simp [T.elsL] at e'
  · split at e
    · rename_i ds' e'
      cases e
      cases r with
      | z r =>
        cases r <;> first | (simp [T.elsK] at e'; done) | skip
        rename_i a vs ds' h r _
        simp only [T.elsK, Option.some.injEq] at e'; subst e'
        exact ⟨_, _, rfl, r, .inl fun Z' H' F' x ok' => SqL.mono ok'.sub (SqL.mono x.zz h)⟩
      | _ => simp [T.elsK] at e'
    · cases r with
      | z r =>
        cases r <;> first | (simp [T.elsT] at e; done) | skip
        rename_i a vs ds' h r _ _
        simp only [T.elsT, Option.some.injEq] at e; subst e
        exact ⟨_, _, rfl, r, .inr fun Z' H' F' x => SqT.mono (x.tt ok.left) h⟩
      | tup h r => exact ⟨_, _, rfl, zs_ok e r, .inr fun Z' H' F' x => SqT.mono (x.tt ok.left) h⟩
      | _ => simp [T.elsT] at e
end
section
variable {K : PySem.W.Frag} {W : WX} {P P' : List Nat} {D : Ends} {σ : L2.St} {H : Hp} {g : SM} {s : GM} {fi : EM Opd}
theorem PostS.pins {Z : Hp} {F : List Addr} {o : Out} (post : PostS K W P D σ Z H F o) (hP : ∀ i ∈ P, i ∈ P') : PostS K W P' D σ Z H F o := by
  cases o with
  | nx e => exact fun σ' H' Z' F' a b c d => post σ' H' Z' F' a b c (d.sub hP)
  | bk e => exact fun σ' H' Z' F' a b c d => post σ' H' Z' F' a b c (d.sub hP)
  | ct e => exact fun σ' H' Z' F' a b c d => post σ' H' Z' F' a b c (d.sub hP)
  | rt t e => exact fun v σ' H' Z' F' G a b c d f => post v σ' H' Z' F' G a b c d (f.sub hP)
  | ex y e => exact fun d σ' H' Z' F' a b c f g => post d σ' H' Z' F' a b c f (g.sub hP)
theorem for_run {Z : Hp} {F G : List Addr} {env : En} {u : T} {v : V} {ds : List DL.D} {o : Out} (ok : Ok Z H (F ++ G)) (er : EnvR K Z H env σ F) (r : RepT K Z H u v G) (e : u.els = some ds) (ef : forF s g ds env = some o) (post : PostS K W P' D σ Z H F o) :
    ∃ a, v = .ref a ∧ (((∃ xs, SqL K H a xs) ∧ ∃ W' : Nat → Nat → L2.St → Hp → Prop, (∃ m, W' 0 m σ H) ∧ ∀ i m σ H, W' i m σ H →
      ((Itl K a).stop i H ∧ D.nx σ H) ∨ ((Itl K a).go i H ∧ ∃ N : L2.St → Hp → Prop, (∀ σ' H', N σ' H' → ∃ m', m' < m ∧ W' (i + 1) m' σ' H') ∧ ∀ x H', (Itl K a).yld i H x H' → tG K P' s x σ H' fun σ2 H2 => tS K W P' g { D with nx := N, ct := N, bk := D.nx } σ2 H2)) ∨
      ((∃ xs, SqT K H a xs) ∧ ∃ W' : Nat → Nat → L2.St → Hp → Prop, (∃ m, W' 0 m σ H) ∧ ∀ i m σ H, W' i m σ H →
      ((Itt K a).stop i H ∧ D.nx σ H) ∨ ((Itt K a).go i H ∧ ∃ N : L2.St → Hp → Prop, (∀ σ' H', N σ' H' → ∃ m', m' < m ∧ W' (i + 1) m' σ' H') ∧ ∀ x H', (Itt K a).yld i H x H' → tG K P' s x σ H' fun σ2 H2 => tS K W P' g { D with nx := N, ct := N, bk := D.nx } σ2 H2))) := by
  obtain ⟨a, vs, rfl, rs, st⟩ := els_stay (F := F) r ok e
  refine ⟨a, rfl, ?_⟩
  rcases st with st | st
  · refine .inl ⟨⟨vs, st Z H F Ext.refl ok.left⟩, ?_⟩
    refine for_list (K := K) (a := a) (xs := vs) (fun i σ' H' => ∃ Z' env' F', Ok Z' H' F' ∧ EnvR K Z' H' env' σ' F' ∧ Ext Z H F Z' H' F' ∧ Pin P' σ σ' ∧ forF s g (ds.drop i) env' = some o)
      ⟨Z, env, F, ok.left, er, Ext.refl, Pin.refl, by simpa using ef⟩ (fun i σ' H' _ ⟨Z', env', F', ok', _, x, _⟩ => st Z' H' F' x ok') (fun i x σ1 H1 hx ⟨Z1, env1, F1, ok1, er1, x1, pn, e1⟩ => ?_) (fun σ1 H1 ⟨Z1, env1, F1, ok1, er1, x1, pn, e1⟩ => ?_)
    · exact for_turn hx ok1 er1 x1 ok.left pn rs e1 post _ fun σ' H' Z' F' env' a b c d f => ⟨Z', env', F', a, b, c, d, f⟩
    · rw [← rs.length, List.drop_length] at e1
      cases e1
      exact post σ1 H1 Z1 F1 x1 ok1 er1 pn
  · exact .inr ⟨⟨vs, st Z H F Ext.refl⟩, for_tupD ok.left er rs st ef post⟩
theorem forE_ok (hP : ∀ i ∈ P, i ∈ P') (q : tS K W P (sFor fi s g) D σ H) : tFor (iAny K (tQ K W false fi)) (tG K P' s) (tS K W P' g) D σ H := by
  obtain ⟨Z, env, F, ok, er, o, ho, post⟩ := q
  unfold sFor at ho
  split at ho
  · cases ho
  · rename_i x e hf
    cases ho
    exact ⟨Z, env, F, ok, er, _, hf, fun d H' Z' F' a b c f => post d σ H' Z' F' a b c f Pin.refl⟩
  · rename_i u e hf
    split at ho
    · rename_i ds hd
      refine ⟨Z, env, F, ok, er, _, hf, fun v H1 Z1 F1 G1 x1 ok1 er1 or1 _ => ?_⟩
      cases or1 with
      | t r => exact for_run ok1 er1 r hd ho ((post.then (x1.sub fun a ha => List.mem_append_left _ ha) Pin.refl).pins hP)
    · cases ho
  · cases ho
theorem forN_ok {i : Nat} (hP : ∀ j ∈ P, j ∈ P') (hi : i ∈ P') (q : tS K W P (sForN i s g) D σ H) : tFor (iAny K (tVar i)) (tG K P' s) (tS K W P' g) D σ H := by
  obtain ⟨Z, env, F, ok, er, o, ho, post⟩ := q
  unfold sForN at ho
  split at ho
  · rename_i d he
    split at ho
    · rename_i ds hd
      obtain ⟨v, Fi, h1, h2, _⟩ := er.at he
      cases h2 with
      | z h2 => exact ⟨v, h1, for_run (G := []) (by simpa using ok) er (.z h2) hd ho (post.pins hP)⟩
    · cases ho
  · rename_i u _ he
    split at ho
    · rename_i ds hd
      obtain ⟨A, Fi, B, o', e1, e2, e3, e4⟩ := er.lens he
      cases e3 with
      | @so _ v _ r =>
        have hil : i < env.length := (List.getElem?_eq_some_iff.mp he).1
        have setσ : ∀ σ' : L2.St, σ'[i]? = some (some v) → σ'.set i (some v) = σ' := fun σ' h => by
          apply List.ext_getElem?
          intro j
          by_cases hj : i = j
          · subst hj
            obtain ⟨hl, _⟩ := List.getElem?_eq_some_iff.mp h
            rw [List.getElem?_set_self hl, h]
          · rw [List.getElem?_set_ne hj]
        have er0 := e4 Z H (fun _ _ z => z) (fun _ _ z => z) (fun _ _ _ z => z) none (some v) [] .no
        rw [setσ σ e2] at er0
        simp only [List.append_nil] at er0
        subst e1
        have pm : (A ++ Fi ++ B).Perm ((A ++ B) ++ Fi) := by
          simp only [List.append_assoc]
          exact List.Perm.append_left A List.perm_append_comm
        have ok0 : Ok Z H ((A ++ B) ++ Fi) := ok.perm pm
        have sub0 : Ext Z H (A ++ Fi ++ B) Z H ((A ++ B) ++ Fi) := Ext.subF fun a ha => pm.mem_iff.mpr ha
        -- putting it back
        have put : ∀ {e : En} {σ' : L2.St} {H' Z' : Hp} {F' : List Addr}, Ext Z H (A ++ B) Z' H' F' → Ok Z' H' F' → EnvR K Z' H' e σ' F' → Pin P' σ σ' →
            ∃ F2, Ext Z H (A ++ Fi ++ B) Z' H' F2 ∧ Ok Z' H' F2 ∧ EnvR K Z' H' (e.set i (some u)) σ' F2 := fun {e σ' H' Z' F'} x ok' er' pn => by
          have okb := Ok.beside x ok' ok0
          have r' := r.frame x ok0
          have hl' : i < e.length := by
            rw [er'.length]
            have := pn.2 i hi
            rw [e2] at this
            exact (List.getElem?_eq_some_iff.mp this).1
          obtain ⟨F2, x2, ok2, er2⟩ := er'.put okb r' hl'
          rw [setσ σ' ((pn.2 i hi).trans e2)] at er2
          exact ⟨F2, (sub0.trans (x.wide (G := Fi))).trans x2, ok2, er2⟩
        refine ⟨v, e2, ?_⟩
        generalize hfo : forF s g ds (env.set i none) = fo at ho
        cases fo with
        | none => cases ho
        | some fo =>
          refine for_run ok0 er0 r hd hfo ?_
          cases fo with
          | nx e =>
            cases ho
            exact fun σ' H' Z' F' x ok' er' pn => by
              obtain ⟨F2, h1, h2, h3⟩ := put x ok' er' pn
              exact post σ' H' Z' F2 h1 h2 h3 (pn.sub hP)
          | bk e =>
            cases ho
            exact fun σ' H' Z' F' x ok' er' pn => post σ' H' Z' F' ((Ext.subF fun a ha => by simp only [List.mem_append] at ha ⊢; rcases ha with h | h; exact .inl (.inl h); exact .inr h).trans x) ok' er' (pn.sub hP)
          | ct e =>
            cases ho
            exact fun σ' H' Z' F' x ok' er' pn => post σ' H' Z' F' ((Ext.subF fun a ha => by simp only [List.mem_append] at ha ⊢; rcases ha with h | h; exact .inl (.inl h); exact .inr h).trans x) ok' er' (pn.sub hP)
          | rt t e =>
            cases ho
            exact fun v σ' H' Z' F' G x ok' er' r' pn => post v σ' H' Z' F' G ((Ext.subF fun a ha => by simp only [List.mem_append] at ha ⊢; rcases ha with h | h; exact .inl (.inl h); exact .inr h).trans x) ok' er' r' (pn.sub hP)
          | ex y e =>
            cases ho
            exact fun d σ' H' Z' F' x ok' er' xr pn => by
              obtain ⟨F2, h1, h2, h3⟩ := put x ok' er' pn
              exact post d σ' H' Z' F2 h1 h2 h3 xr (pn.sub hP)
    · cases ho
  · cases ho
theorem forR1_ok {p : Bool} {fr : EM (List Opd)} (hP : ∀ i ∈ P, i ∈ P') (q : tS K W P (sForR gRng1 fr s g) D σ H) : tFor (iRng1 (tAQ K W false fr)) (tG K P' s) (tS K W P' g) D σ H := by
  obtain ⟨Z, env, F, ok, er, o, ho, post⟩ := q
  unfold sForR at ho
  split at ho
  · cases ho
  · rename_i x e hf
    cases ho
    exact ⟨Z, env, F, ok, er, _, hf, fun d H' Z' F' a b c f => post d σ H' Z' F' a b c f Pin.refl⟩
  · rename_i os e hf
    split at ho
    · cases ho
    · rename_i ds hd
      split at ho
      · cases ho
      · rename_i lo n hg
        refine ⟨Z, env, F, ok, er, _, hf, fun vs H1 Z1 F1 G1 x1 ok1 er1 or1 _ => ?_⟩
        have rd := or1.look ok1.sub er1 hd
        unfold gRng1 at hg
        split at hg
        · rename_i j
          split at hg
          · rename_i hj
            cases hg
            obtain ⟨x, rfl, r1⟩ := rd.one
            have := r1.v_int; subst this
            have hj := inB_iff.mp hj
            exact ⟨j, rfl, hj.1, hj.2, for_rngD ok1.left er1 ho ((post.then (x1.sub fun a ha => List.mem_append_left _ ha) Pin.refl).pins hP)⟩
          · cases hg
        · cases hg
theorem forR2_ok {p : Bool} {fr : EM (List Opd)} (hP : ∀ i ∈ P, i ∈ P') (q : tS K W P (sForR gRng2 fr s g) D σ H) : tFor (iRng2 (tAQ K W false fr)) (tG K P' s) (tS K W P' g) D σ H := by
  obtain ⟨Z, env, F, ok, er, o, ho, post⟩ := q
  unfold sForR at ho
  split at ho
  · cases ho
  · rename_i x e hf
    cases ho
    exact ⟨Z, env, F, ok, er, _, hf, fun d H' Z' F' a b c f => post d σ H' Z' F' a b c f Pin.refl⟩
  · rename_i os e hf
    split at ho
    · cases ho
    · rename_i ds hd
      split at ho
      · cases ho
      · rename_i lo n hg
        refine ⟨Z, env, F, ok, er, _, hf, fun vs H1 Z1 F1 G1 x1 ok1 er1 or1 _ => ?_⟩
        have rd := or1.look ok1.sub er1 hd
        unfold gRng2 at hg
        split at hg
        · rename_i i j
          split at hg
          · rename_i hj
            cases hg
            obtain ⟨x, y, rfl, r1, r2⟩ := rd.two
            have h1 := r1.v_int
            have h2 := r2.v_int
            subst h1 h2
            have hj1 := inB_iff.mp hj.1
            have hj2 := inB_iff.mp hj.2
            exact ⟨_, _, rfl, ⟨hj1.1, hj1.2, hj2.1, hj2.2⟩, for_rngD ok1.left er1 ho ((post.then (x1.sub fun a ha => List.mem_append_left _ ha) Pin.refl).pins hP)⟩
          · cases hg
        · cases hg
end
theorem tAQ_any {K : PySem.W.Frag} {W : WX} {p : Bool} {f : EM (List Opd)} {σ : L2.St} {H : Hp} {Q : List V → Hp → Prop} (h : tAQ K W false f σ H Q) : tAQ K W p f σ H Q := by
  obtain ⟨Z, env, F, ok, er, r, hr, post⟩ := h
  refine ⟨Z, env, F, ok, er, r, hr, ?_⟩
  cases r with
  | ok b e => exact fun v H' Z' F' G a b c d _ => post v H' Z' F' G a b c d fun z => nomatch z
  | ex x e => exact post
section
variable {X : Cx} {W : WX} {P : List Nat} {tg e e2 : Expr} {body : List Stmt} {pos p1 : Pos} {p : Bool} {f : EM Opd} {fr : EM (List Opd)} {s : GM} {g : SM}
theorem psq_forE (hp : PassesOwn (model X.prog X.w) X.A X.env X.xe) (hc : X.calm = true) (he : PQ X W p e f) (hg : PGQ X P tg s) (hb : PBQ X W P body g) (hs : ∀ x, foldedSetIterable e X.env x = pure x := by intro _; rfl) : PSQ X W P (.For tg e body [] pos) (sFor f s g) :=
  (ps_for hp hc (pi_any (he.imp fun _ _ _ z => tQ_any z : PQ X W false e f)) hg hb hs).imp fun D σ H q => forE_ok (fun _ h => h) q
theorem psq_forN {i : Nat} {x : Str} (hp : PassesOwn (model X.prog X.w) X.A X.env X.xe) (hc : X.calm = true) (he : PE X (.Name x p1) (tVar i)) (hg : PGQ X (i :: P) tg s) (hb : PBQ X W (i :: P) body g) : PSQ X W P (.For tg (.Name x p1) body [] pos) (sForN i s g) :=
  (ps_for hp hc (pi_any he) hg hb (by intro _; rfl)).imp fun D σ H q => forN_ok (fun _ h => List.mem_cons_of_mem _ h) List.mem_cons_self q
theorem psq_forR1 {pn : Pos} (hp : PassesOwn (model X.prog X.w) X.A X.env X.xe) (hc : X.calm = true) (hr : Gl X "range") (hm : X.mg "range" = none) (ha : PAQ X W p [e] fr) (hg : PGQ X P tg s) (hb : PBQ X W P body g) (hs : starEach [e] X.env = [(false, eval e X.env)] := by rfl) :
    PSQ X W P (.For tg (.Call (.Name "range" p1) [e] [] pn) body [] pos) (sForR gRng1 fr s g) :=
  (ps_for hp hc (pi_range1 hr hm (ha.imp fun _ _ _ z => tAQ_any z : PAQ X W false [e] fr) hs) hg hb (by intro _; rfl)).imp fun D σ H q => forR1_ok (p := p) (fun _ h => h) q
theorem psq_forR2 {pn : Pos} (hp : PassesOwn (model X.prog X.w) X.A X.env X.xe) (hc : X.calm = true) (hr : Gl X "range") (hm : X.mg "range" = none) (ha : PAQ X W p [e, e2] fr) (hg : PGQ X P tg s) (hb : PBQ X W P body g) (hs : starEach [e, e2] X.env = [(false, eval e X.env), (false, eval e2 X.env)] := by rfl) (hs2 : starEach [e2] X.env = [(false, eval e2 X.env)] := by rfl) :
    PSQ X W P (.For tg (.Call (.Name "range" p1) [e, e2] [] pn) body [] pos) (sForR gRng2 fr s g) :=
  (ps_for hp hc (pi_range2 hr hm (ha.imp fun _ _ _ z => tAQ_any z : PAQ X W false [e, e2] fr) hs hs2) hg hb (by intro _; rfl)).imp fun D σ H q => forR2_ok (p := p) (fun _ h => h) q
end
end DL

/-! DL8: displays, defs, calls. -/
namespace DL
open PySem PySem.Spec PyProof.Rows L2

/-! ### many operands taken -/
@[simp] def takes : List Opd → En → Option (List T × En)
  | [], env => some ([], env)
  | o :: os, env => match o.take env with
    | none => none
    | some (t, e1) => match takes os e1 with
      | none => none
      | some (ts, e2) => some (t :: ts, e2)
section
variable {K : PySem.W.Frag} {σ : L2.St}
theorem OpdRs.later {Z H Z' H' : Hp} {F F' G : List Addr} {os : List Opd} {vs : List V} (r : OpdRs K Z H σ os vs G) (x : Ext Z H F Z' H' F') (ok : Ok Z H (F ++ G)) (g : Grow H H') : OpdRs K Z' H' σ os vs G := by
  induction r generalizing F F' with
  | nil => exact .nil
  | @cons o v G1 os vs G2 a b ih =>
    have ok1 : Ok Z H (F ++ G1) := ok.subF (by rw [← List.append_assoc]; exact List.sublist_append_left _ _)
    have ok2 : Ok Z H (F ++ G2) := ok.subF (List.Sublist.append_left (List.sublist_append_right _ _) F)
    exact .cons (a.later x ok1 (.inr g)) (ih x ok2)
theorem takes_ok {H : Hp} : ∀ {os : List Opd} {env env' : En} {ts : List T} {vs : List V} {Z : Hp} {F G : List Addr}, Ok Z H (F ++ G) → EnvR K Z H env σ F → OpdRs K Z H σ os vs G → takes os env = some (ts, env') →
    ∃ Z' F' G', Ext Z H (F ++ G) Z' H (F' ++ G') ∧ Ok Z' H (F' ++ G') ∧ EnvR K Z' H env' σ F' ∧ RepTs K Z' H ts vs G'
  | [], env, env', ts, vs, Z, F, G, ok, er, r, e => by
    simp only [takes, Option.some.injEq, Prod.mk.injEq] at e
    obtain ⟨rfl, rfl⟩ := e
    cases r
    exact ⟨Z, F, [], Ext.refl, ok, er, .nil⟩
  | o :: os, env, env', ts, vs, Z, F, G, ok, er, r, e => by
    cases r with
    | @cons _ v G1 _ vs G2 a b =>
      simp only [takes] at e
      split at e
      · cases e
      · rename_i t e1 h1
        split at e
        · cases e
        · rename_i ts' e2 h2
          simp only [Option.some.injEq, Prod.mk.injEq] at e
          obtain ⟨rfl, rfl⟩ := e
          have ok' : Ok Z H ((F ++ G1) ++ G2) := by rw [List.append_assoc]; exact ok
          obtain ⟨Z1, F1, G1', x1, ok1, er1, r1⟩ := take_ok ok'.left er a h1
          have okb : Ok Z1 H ((F1 ++ G1') ++ G2) := Ok.beside x1 ok1 ok'
          have pm1 : ((F1 ++ G1') ++ G2).Perm ((F1 ++ G2) ++ G1') := by
            simp only [List.append_assoc]
            exact List.Perm.append_left F1 List.perm_append_comm
          have okc : Ok Z1 H ((F1 ++ G2) ++ G1') := okb.perm pm1
          have b' : OpdRs K Z1 H σ os vs G2 := by
            have okx : Ok Z H ((F ++ G1) ++ G2) := ok'
            exact b.later x1 okx (fun _ _ z => z)
          obtain ⟨Z2, F2, G2', x2, ok2, er2, r2⟩ := takes_ok okc.left er1 b' h2
          have okd : Ok Z2 H ((F2 ++ G2') ++ G1') := Ok.beside x2 ok2 okc
          have pm2 : ((F2 ++ G2') ++ G1').Perm (F2 ++ (G1' ++ G2')) := by
            rw [List.append_assoc]
            exact List.Perm.append_left F2 List.perm_append_comm
          refine ⟨Z2, F2, G1' ++ G2', ?_, okd.perm pm2, er2, .cons (r1.frame x2 okc) r2⟩
          have xa : Ext Z H ((F ++ G1) ++ G2) Z1 H ((F1 ++ G1') ++ G2) := x1.wide
          have xb : Ext Z1 H ((F1 ++ G2) ++ G1') Z2 H ((F2 ++ G2') ++ G1') := x2.wide
          have xc := (xa.sub fun a ha => pm1.mem_iff.mpr ha).trans xb
          have xd := xc.sub (F2 := F2 ++ (G1' ++ G2')) fun a ha => pm2.mem_iff.mpr ha
          rw [List.append_assoc] at xd
          exact xd
end

/-! ### displays -/
@[simp] def mkTup (ts : List T) : T := match zs ts with
  | some ds => .z (.tup ds)
  | none => .tup ts
def sTake (h : List T → Option T) (fr : EM (List Opd)) : EM Opd := fun env => match fr env with
  | none => none
  | some (.ex x e) => some (.ex x e)
  | some (.ok os e) => match takes os e with
    | none => none
    | some (ts, e') => match h ts with
      | none => none
      | some t => some (.ok (.t t) e')
@[simp] def hTup (ts : List T) : Option T := if ts.length ≤ sizeLine then some (mkTup ts) else none
@[simp] def hLst (ts : List T) : Option T := if ts.length ≤ sizeLine then some (.lst ts) else none
theorem zs_noF {K : PySem.W.Frag} {Z H : Hp} : ∀ {ts : List T} {ds : List D} {vs : List V} {F : List Addr}, zs ts = some ds → RepTs K Z H ts vs F → F = []
  | [], _, _, _, e, r => by cases r; rfl
  | .z d :: ts, _, _, _, e, r => by
    simp only [zs] at e
    split at e
    · rename_i ds' e'
      cases r with
      | cons a b => cases a with | z a => simpa using zs_noF e' b
    · cases e
  | .tup _ :: _, _, _, _, e, _ => by simp [zs] at e
  | .lst _ :: _, _, _, _, e, _ => by simp [zs] at e
  | .dic _ _ :: _, _, _, _, e, _ => by simp [zs] at e
  | .obj _ _ _ :: _, _, _, _, e, _ => by simp [zs] at e
section
variable {K : PySem.W.Frag} {W : WX} {σ : L2.St} {H : Hp} {fr : EM (List Opd)} {Q : VK}
theorem RepTs.grown {Z H' : Hp} {ts : List T} {vs : List V} {F : List Addr} (r : RepTs K Z H ts vs F) (g : Grow H H') : RepTs K Z H' ts vs F := r.keep (fun _ _ h => h) g.tt fun a _ o h => g a o h
theorem dispT_ok (q : tQ K W false (sTake hTup fr) σ H Q) : tTup (tAQ K W false fr) σ H Q := by
  obtain ⟨Z, env, F, ok, er, r, hr, post⟩ := q
  unfold sTake at hr
  split at hr
  · cases hr
  · rename_i x e hf
    cases hr
    exact ⟨Z, env, F, ok, er, _, hf, post⟩
  · rename_i os e hf
    split at hr
    · cases hr
    · rename_i ts e' ht
      unfold hTup at hr
      split at hr
      · cases hr
      · rename_i t hh
        cases hr
        split at hh
        · rename_i hl
          cases hh
          refine ⟨Z, env, F, ok, er, _, hf, fun vs H1 Z1 F1 G1 x1 ok1 er1 or1 _ => ?_⟩
          obtain ⟨Z2, F2, G2, x2, ok2, er2, r2⟩ := takes_ok ok1 er1 or1 ht
          refine ⟨by rw [← r2.length]; exact hl, fun p hp => ?_⟩
          have g := grow_upd (o := .tup vs) hp
          have nF : ∀ a ∈ F2 ++ G2, a ≠ p := fun a ha e => by
            subst e
            have m := ok2.mu a ha
            rw [hp] at m; exact m
          have ok3 : Ok Z2 (upd H1 p (.tup vs)) (F2 ++ G2) := ⟨fun a o h => g a o (ok2.sub a o h), ok2.nod, ok2.dis, fun a ha => by rw [upd_ne (nF a ha)]; exact ok2.mu a ha⟩
          have x3 : Ext Z2 H1 (F2 ++ G2) Z2 (upd H1 p (.tup vs)) (F2 ++ G2) := ⟨fun _ _ h => h, fun a o h _ => g a o h, fun a h => .inl h, fun _ _ h => .inl h⟩
          have rt : ∃ G3, RepT K Z2 (upd H1 p (.tup vs)) (mkTup ts) (.ref p) G3 ∧ G3 = G2 := by
            unfold mkTup
            split
            · rename_i ds hz
              have e0 := zs_noF hz r2
              exact ⟨[], .z (.tup (SqT.of upd_same) ((zs_ok hz r2).grown g)), e0.symm⟩
            · exact ⟨G2, .tup (SqT.of upd_same) (r2.grown g), rfl⟩
          obtain ⟨G3, rt, rfl⟩ := rt
          exact post (.ref p) _ Z2 F2 G3 ((x1.trans x2).trans x3) ok3 (er2.grown g) (.t rt) fun z => nomatch z
        · cases hh
theorem dispL_ok (q : tQ K W false (sTake hLst fr) σ H Q) : tLst (tAQ K W false fr) σ H Q := by
  obtain ⟨Z, env, F, ok, er, r, hr, post⟩ := q
  unfold sTake at hr
  split at hr
  · cases hr
  · rename_i x e hf
    cases hr
    exact ⟨Z, env, F, ok, er, _, hf, post⟩
  · rename_i os e hf
    split at hr
    · cases hr
    · rename_i ts e' ht
      unfold hLst at hr
      split at hr
      · cases hr
      · rename_i t hh
        cases hr
        split at hh
        · rename_i hl
          cases hh
          refine ⟨Z, env, F, ok, er, _, hf, fun vs H1 Z1 F1 G1 x1 ok1 er1 or1 _ => ?_⟩
          obtain ⟨Z2, F2, G2, x2, ok2, er2, r2⟩ := takes_ok ok1 er1 or1 ht
          refine ⟨by rw [← r2.length]; exact hl, fun p hp => ?_⟩
          have g := grow_upd (o := .lst vs) hp
          have ok3 : Ok Z2 (upd H1 p (.lst vs)) ((F2 ++ G2) ++ [p]) := ok2.grown g (fresh1 hp) (by simp) fun a ha => by rw [List.mem_singleton.mp ha, upd_same]; trivial
          have x3 : Ext Z2 H1 (F2 ++ G2) Z2 (upd H1 p (.lst vs)) ((F2 ++ G2) ++ [p]) := Ext.grown g (fresh1 hp)
          have pm : ((F2 ++ G2) ++ [p]).Perm (F2 ++ (p :: G2)) := by
            rw [List.append_assoc]
            exact List.Perm.append_left F2 List.perm_append_comm
          exact post (.ref p) _ Z2 F2 (p :: G2) (((x1.trans x2).trans x3).sub fun a ha => pm.mem_iff.mpr ha) (ok3.perm pm) (er2.grown g) (.t (.lst upd_same (r2.grown g))) fun z => nomatch z
        · cases hh
end
section
variable {X : Cx} {W : WX} {es : List Expr} {pos : Pos} {p : Bool} {fr : EM (List Opd)}
theorem pq_tup {k} (h : PAQ X W p es fr) : PQ X W false (.Tuple es k pos) (sTake hTup fr) := (pe_tup (h.imp fun _ _ _ z => tAQ_any z : PAQ X W false es fr)).imp fun _ _ _ q => dispT_ok q
theorem pq_lst (h : PAQ X W p es fr) : PQ X W false (.List es pos) (sTake hLst fr) := (pe_lst (h.imp fun _ _ _ z => tAQ_any z : PAQ X W false es fr)).imp fun _ _ _ q => dispL_ok q
end
/-! pure displays: all items immutable -/
@[simp] def immD (env : En) : Opd → Option D
  | .t (.z d) => some d
  | .k d => if d.imm = true then some d else none
  | _ => none
@[simp] def immDs (env : En) : List Opd → Option (List D)
  | [] => some []
  | o :: os => match immD env o, immDs env os with
    | some d, some ds => some (d :: ds)
    | _, _ => none
@[simp] def oTup (env : En) (os : List Opd) : Option Opd := match immDs env os with
  | some ds => if ds.length ≤ sizeLine then some (.t (.z (.tup ds))) else none
  | none => none
@[simp] def oLst (env : En) (os : List Opd) : Option Opd := match immDs env os with
  | some ds => if ds.length ≤ sizeLine then some (.t (.lst (ds.map .z))) else none
  | none => none
section
variable {K : PySem.W.Frag} {Z H : Hp} {σ : L2.St} {env : En}
theorem immDs_ok : ∀ {os : List Opd} {ds : List D} {vs : List V} {G : List Addr}, OpdRs K Z H σ os vs G → immDs env os = some ds → Reps K Z H ds vs
  | [], _, _, _, r, e => by
    simp only [immDs, Option.some.injEq] at e; subst e
    cases r; exact .nil
  | o :: os, _, _, _, r, e => by
    simp only [immDs] at e
    split at e
    · rename_i d ds' e1 e2
      simp only [Option.some.injEq] at e; subst e
      cases r with
      | cons a b =>
        refine .cons ?_ (immDs_ok b e2)
        unfold immD at e1
        split at e1
        · cases e1
          cases a with | t a => cases a with | z a => exact a
        · split at e1
          · rename_i hi
            cases e1
            cases a with | k a => exact a.imm (fun _ _ z => z) hi
          · cases e1
        · cases e1
    · cases e
end
section
variable {X : Cx} {W : WX} {es : List Expr} {pos : Pos} {p : Bool} {fr : EM (List Opd)}
theorem pq_tupI {k} (h : PAQ X W p es fr) : PQ X W p (.Tuple es k pos) (sO oTup fr) := by
  refine (pe_tup h).imp fun σ H Q q => o_ok (R := fun xs H Q => xs.length ≤ sizeLine ∧ ∀ p, H p = none → Q (.ref p) (upd H p (.tup xs))) ?_ q
  intro σ Z H F G env os xs o' Q ok er or ho hq
  unfold oTup at ho
  split at ho
  · rename_i ds hd
    split at ho
    · rename_i hl
      cases ho
      have r := immDs_ok or hd
      exact ⟨by rw [← r.length]; exact hl, fun p hn => hq _ _ [] (grow_upd hn) (fun _ z => nomatch z) (by simp) (new_tup hn r)⟩
    · cases ho
  · cases ho
theorem pq_lstI (h : PAQ X W p es fr) : PQ X W p (.List es pos) (sO oLst fr) := by
  refine (pe_lst h).imp fun σ H Q q => o_ok (R := fun xs H Q => xs.length ≤ sizeLine ∧ ∀ p, H p = none → Q (.ref p) (upd H p (.lst xs))) ?_ q
  intro σ Z H F G env os xs o' Q ok er or ho hq
  unfold oLst at ho
  split at ho
  · rename_i ds hd
    split at ho
    · rename_i hl
      cases ho
      have r := immDs_ok or hd
      exact ⟨by rw [← r.length]; exact hl, fun p hn => hq _ _ [p] (grow_upd hn) (fresh1 hn) (by simp) (new_lst hn r)⟩
    · cases ho
  · cases ho
end

/-! ### what a def computes -/
inductive FOut where
  | rt (t : T) (fin : List T)
  | ex (x : Exc) (fin : List T)
abbrev FSem := List T → Option FOut
/-- the places that a mask names -/
@[simp] def pick {α : Type} : List Bool → List α → List α
  | true :: m, x :: xs => x :: pick m xs
  | false :: m, _ :: xs => pick m xs
  | _, _ => []
/-- the slots that a mask names -/
@[simp] def fins : List Bool → En → Option (List T)
  | true :: m, some t :: e => match fins m e with
    | some ts => some (t :: ts)
    | none => none
  | true :: _, _ => none
  | false :: m, _ :: e => fins m e
  | false :: _, [] => none
  | [], _ => some []
def PostF (K : PySem.W.Frag) (io : List Bool) (vs : List V) (Q : VK) (E : XK) (Z H : Hp) (F : List Addr) : FOut → Prop
  | .rt t fin => ∀ v H' Z' F' G, Ext Z H F Z' H' (F' ++ G) → Ok Z' H' (F' ++ G) → RepTs K Z' H' fin (pick io vs) F' → RepT K Z' H' t v G → Q v H'
  | .ex x fin => ∀ d H' Z' F', Ext Z H F Z' H' F' → Ok Z' H' F' → RepTs K Z' H' fin (pick io vs) F' → ExR K Z' H' x d → E (.ref x.C) d H'
def spF (K : PySem.W.Frag) (n : Nat) (io : List Bool) (f : FSem) : Sp := fun vs H Q E =>
  vs.length = n ∧ ∃ Z ts F, Ok Z H F ∧ RepTs K Z H ts vs F ∧ ∃ out, f ts = some out ∧ PostF K io vs Q E Z H F out
/-- a body as a def: n parameters, m slots in all -/
def fnOf (n m : Nat) (io : List Bool) (g : SM) : FSem := fun ts =>
  if ts.length = n then match g (ts.map some ++ List.replicate (m - n) none) with
    | some (.nx e) => match fins io e with
      | some fin => some (.rt (.z .non) fin)
      | none => none
    | some (.rt t e) => match fins io e with
      | some fin => some (.rt t fin)
      | none => none
    | some (.ex x e) => match fins io e with
      | some fin => some (.ex x fin)
      | none => none
    | _ => none
  else none
def maskIx (k : Nat) : List Bool → List Nat
  | true :: m => k :: maskIx (k + 1) m
  | false :: m => maskIx (k + 1) m
  | [] => []
section
variable {K : PySem.W.Frag} {Z H : Hp}
theorem envR_start {ts : List T} {vs : List V} {F : List Addr} (r : RepTs K Z H ts vs F) (k : Nat) : EnvR K Z H (ts.map some ++ List.replicate k none) (vs.map some ++ List.replicate k none) F := by
  induction ts generalizing vs F with
  | nil =>
    cases r
    simp only [List.map_nil, List.nil_append]
    induction k with
    | zero => exact .nil
    | succ k ih => exact EnvR.cons (F := []) (G := []) .no ih
  | cons t ts ih =>
    cases r with
    | cons a b => exact EnvR.cons (.so a) (ih b)
theorem fins_ok : ∀ {io : List Bool} {env : En} {σ : L2.St} {F : List Addr} {fin : List T}, EnvR K Z H env σ F → fins io env = some fin →
    ∃ ws F', σ.take io.length = σ.take io.length ∧ RepTs K Z H fin ws F' ∧ F'.Sublist F ∧ pick io σ = ws.map some
  | [], env, σ, F, fin, er, e => by
    simp only [fins, Option.some.injEq] at e; subst e
    exact ⟨[], [], rfl, .nil, List.nil_sublist _, rfl⟩
  | true :: m, env, σ, F, fin, er, e => by
    cases er with
    | nil => simp [fins] at e
    | @cons e0 o0 F0 env0 σ0 G0 s r =>
      cases s with
      | no => simp [fins] at e
      | @so t v _ rt =>
        simp only [fins] at e
        split at e
        · rename_i ts e'
          cases e
          obtain ⟨ws, F', _, h1, h2, h3⟩ := fins_ok r e'
          exact ⟨v :: ws, F0 ++ F', rfl, .cons rt h1, h2.append_left F0, by simp [pick, h3]⟩
        · cases e
  | false :: m, env, σ, F, fin, er, e => by
    cases er with
    | nil => simp [fins] at e
    | @cons e0 o0 F0 env0 σ0 G0 s r =>
      simp only [fins] at e
      obtain ⟨ws, F', _, h1, h2, h3⟩ := fins_ok r e
      exact ⟨ws, F', rfl, h1, h2.trans (List.sublist_append_right _ _), by simp [pick, h3]⟩
theorem fins_len : ∀ {io : List Bool} {env : En} {fin : List T}, fins io env = some fin → io.length ≤ env.length
  | [], _, _, _ => by simp
  | true :: m, [], _, e => by simp [fins] at e
  | true :: m, none :: _, _, e => by simp [fins] at e
  | true :: m, some t :: env, _, e => by
    simp only [fins] at e
    split at e
    · rename_i ts e'
      have := fins_len e'
      simpa using this
    · cases e
  | false :: m, [], _, e => by simp [fins] at e
  | false :: m, _ :: env, _, e => by
    simp only [fins] at e
    have := fins_len e
    simpa using this
theorem pick_pin : ∀ {io : List Bool} {k : Nat} {σ σ' : L2.St} {A A' : L2.St}, A.length = k → A'.length = k → (∀ i ∈ maskIx k io, (A' ++ σ')[i]? = (A ++ σ)[i]?) → io.length ≤ σ.length → io.length ≤ σ'.length → pick io σ' = pick io σ
  | [], _, _, _, _, _, _, _, _, _, _ => by simp [pick]
  | true :: m, k, x :: σ, y :: σ', A, A', h1, h2, hp, hl, hl' => by
    have e := hp k (by simp [maskIx])
    rw [List.getElem?_append_right (by omega), List.getElem?_append_right (by omega)] at e
    simp only [h1, h2, Nat.sub_self, List.getElem?_cons_zero, Option.some.injEq] at e
    subst e
    have ih := pick_pin (io := m) (k := k + 1) (σ := σ) (σ' := σ') (A := A ++ [y]) (A' := A' ++ [y]) (by simp [h1]) (by simp [h2]) (fun i hi => by
      have := hp i (by simp [maskIx, hi])
      simpa using this) (by simpa using hl) (by simpa using hl')
    simp [pick, ih]
  | false :: m, k, x :: σ, y :: σ', A, A', h1, h2, hp, hl, hl' => by
    have ih := pick_pin (io := m) (k := k + 1) (σ := σ) (σ' := σ') (A := A ++ [x]) (A' := A' ++ [y]) (by simp [h1]) (by simp [h2]) (fun i hi => by
      have := hp i (by simp [maskIx, hi])
      simpa using this) (by simpa using hl) (by simpa using hl')
    simp [pick, ih]
  | _ :: _, _, [], _, _, _, _, _, _, hl, _ => by simp at hl
  | _ :: _, _, _ :: _, [], _, _, _, _, _, _, hl => by simp at hl
theorem pick_some {io : List Bool} {vs : List V} {k : Nat} (h : io.length ≤ vs.length) : pick io (vs.map some ++ List.replicate k none) = (pick io vs).map some := by
  induction io generalizing vs with
  | nil => simp [pick]
  | cons b m ih =>
    cases vs with
    | nil => simp at h
    | cons v vs =>
      have := ih (vs := vs) (by simpa using h)
      cases b <;> simp [pick, this]
end
/-- THE RULE for a def -/
theorem def_ok {P : Program} {w : World} {K : PySem.W.Frag} {mg : Str → Option Value} {base : Heap} {x qual : Str} {st : Stmt} {f : Addr} {fd : FuncData} {N ps : List Str} {k : Nat} {io : List Bool} {g : SM} (Fn : Fun K x qual st f fd) (S : FnScope N ps (defScope st)) (hio : io.length ≤ ps.length) (hN : ps.length ≤ N.length)
    (body : ∀ (cdv : Value) (A : Around) (outer : List PySem.Env) (s : Shared) (H : Hp) (E : XK), Room k (A.deeper (envOfC qual (defScope st) s.heap.objs.size f cdv)) →
      PBQ (cxOf (L2.CX P w) P w K mg base N qual (defScope st) f cdv A outer s H E) (fun cls d _ H => E cls d H) (maskIx 0 io) (defBody st) g) :
    FnOk P w K mg base (L2.CX P w) (k + 1) f fd ps (spF K ps.length io (fnOf ps.length N.length io g)) := by
  refine Fn.okX S (fun vs H Q E h => h.1) (fun cdv A outer s H vs Q E hr h => ?_)
  refine ⟨_, body cdv A outer s H E hr, ?_⟩
  obtain ⟨hl, Z, ts, F, ok, r, out, ho, post⟩ := h
  unfold fnOf at ho
  have hts : ts.length = ps.length := r.length.trans hl
  rw [if_pos hts] at ho
  have er := envR_start r (N.length - ps.length)
  have eσ : L2.start N vs = vs.map some ++ List.replicate (N.length - ps.length) none := by unfold L2.start; rw [hl]
  rw [eσ]
  have fin_ok : ∀ {e : En} {fin : List T} {σ' : L2.St} {Z' H' : Hp} {F' : List Addr}, EnvR K Z' H' e σ' F' → fins io e = some fin → Pin (maskIx 0 io) (vs.map some ++ List.replicate (N.length - ps.length) none) σ' →
      ∃ F2, RepTs K Z' H' fin (pick io vs) F2 ∧ F2.Sublist F' := fun {e fin σ' Z' H' F'} er' hf pn => by
    obtain ⟨ws, F2, _, h1, h2, h3⟩ := fins_ok er' hf
    have h4 := pick_pin (io := io) (k := 0) (σ := vs.map some ++ List.replicate (N.length - ps.length) none) (σ' := σ') (A := []) (A' := []) rfl rfl (fun i hi => by simpa using pn.2 i hi) (by simp [hl]; omega) (by rw [← er'.length]; exact fins_len hf)
    rw [h3, pick_some (by rw [hl]; exact hio)] at h4
    have h5 : ws = pick io vs := by
      have := congrArg (List.filterMap id) h4
      simpa using this
    subst h5
    exact ⟨F2, h1, h2⟩
  refine ⟨Z, _, F, ok, er, ?_⟩
  split at ho
  · rename_i e hg
    split at ho
    · rename_i fin hf
      cases ho
      refine ⟨_, hg, fun σ' H' Z' F' x1 ok1 er1 pn => ?_⟩
      obtain ⟨F2, r2, sl⟩ := fin_ok er1 hf pn
      exact post .non H' Z' F2 [] (by simpa using x1.sub fun a ha => sl.subset ha) (by simpa using ok1.subF sl) r2 (.z .non)
    · cases ho
  · rename_i t e hg
    split at ho
    · rename_i fin hf
      cases ho
      refine ⟨_, hg, fun v σ' H' Z' F' G x1 ok1 er1 rt pn => ?_⟩
      obtain ⟨F2, r2, sl⟩ := fin_ok er1 hf pn
      have sl' : (F2 ++ G).Sublist (F' ++ G) := sl.append_right G
      exact post v H' Z' F2 G (x1.sub fun a ha => sl'.subset ha) (ok1.subF sl') r2 rt
    · cases ho
  · rename_i y e hg
    split at ho
    · rename_i fin hf
      cases ho
      refine ⟨_, hg, fun d σ' H' Z' F' x1 ok1 er1 xr pn => ?_⟩
      obtain ⟨F2, r2, sl⟩ := fin_ok er1 hf pn
      exact post d H' Z' F2 (x1.sub fun a ha => sl.subset ha) (ok1.subF sl) r2 xr
    · cases ho
  · cases ho
end DL

/-! DL9: calls of defs. -/
namespace DL
open PySem PySem.Spec PyProof.Rows L2

section
variable {K : PySem.W.Frag} {Z Z' H : Hp}
mutual
theorem RepT.clean : ∀ {t : T} {v : V} {F : List Addr}, RepT K Z H t v F → t.clean = true → RepT K Z' H t v F
  | _, _, _, .z r, e => .z (r.imm (fun _ _ z => z) (by simpa [T.clean] using e))
  | _, _, _, .tup h r, e => .tup h (RepTs.clean r (by simpa [T.clean] using e))
  | _, _, _, .lst h r, e => .lst h (RepTs.clean r (by simpa [T.clean] using e))
  | _, _, _, .dic h n r, e => .dic h n (RepTs.clean r (by simpa [T.clean] using e))
  | _, _, _, .obj h n r, e => .obj h n (RepTs.clean r (by simpa [T.clean] using e))
theorem RepTs.clean : ∀ {t : List T} {v : List V} {F : List Addr}, RepTs K Z H t v F → T.cleans t = true → RepTs K Z' H t v F
  | _, _, _, .nil, _ => .nil
  | _, _, _, .cons r s, e => by
    simp only [T.cleans, Bool.and_eq_true] at e
    exact .cons (r.clean e.1) (s.clean e.2)
end
end
theorem SlotR.frame {K : PySem.W.Frag} {Z H Z' H' : Hp} {F F' G : List Addr} {e : Option T} {o : Option V} (r : SlotR K Z H e o G) (x : Ext Z H F Z' H' F') (ok : Ok Z H (F ++ G)) : SlotR K Z' H' e o G := by
  cases r with
  | no => exact .no
  | so r => exact .so (r.frame x ok)
theorem EnvR.frame {K : PySem.W.Frag} {Z H Z' H' : Hp} {F F' G : List Addr} {env : En} {σ : L2.St} (r : EnvR K Z H env σ G) (x : Ext Z H F Z' H' F') (ok : Ok Z H (F ++ G)) : EnvR K Z' H' env σ G :=
  r.keep x.zz (x.tt ok.left) fun a ha o e => x.hh a o e fun m => (List.nodup_append.mp ok.nod).2.2 a m a ha rfl

/-! ### a call that only looks at its arguments -/
def sCallL (n : Nat) (Fn : FSem) (fr : EM (List Opd)) : EM Opd := fun env => match fr env with
  | none => none
  | some (.ex x e) => some (.ex x e)
  | some (.ok os e) => match rds e os with
    | none => none
    | some ds => if ds.length = n then match Fn (ds.map .z) with
      | some (.rt t []) => if t.clean = true then some (.ok (.t t) e) else none
      | some (.ex x []) => if D.imms x.vs = true then some (.ex x e) else none
      | _ => none
      else none
theorem ExR.imm {K : PySem.W.Frag} {Z Z' H : Hp} {x : Exc} {d : Option Addr} (h : ExR K Z H x d) (i : D.imms x.vs = true) : ExR K Z' H x d := by
  rcases h with h | ⟨a, fs, h1, h2, h3, h4⟩
  · exact .inl h
  · exact .inr ⟨a, fs, h1, h2, h3, h4.imm (fun _ _ z => z) i⟩
section
variable {K : PySem.W.Frag} {W : WX} {σ : L2.St} {H : Hp} {n : Nat} {Fn : FSem} {fr : EM (List Opd)} {Q : VK}
theorem callL_ok {p : Bool} (h : tQ K W p (sCallL n Fn fr) σ H Q) : tAQ K W p fr σ H fun vs H1 => spF K n [] Fn vs H1 Q fun cls d H' => W cls d σ H' := by
  obtain ⟨Z, env, F, ok, er, r, hr, post⟩ := h
  unfold sCallL at hr
  split at hr
  · cases hr
  · rename_i x e hf
    cases hr
    exact ⟨Z, env, F, ok, er, _, hf, post⟩
  · rename_i os e hf
    split at hr
    · cases hr
    · rename_i ds hd
      split at hr
      · rename_i hn
        refine ⟨Z, env, F, ok, er, _, hf, fun vs H1 Z1 F1 G1 x1 ok1 er1 or1 pp => ?_⟩
        have rd := or1.look ok1.sub er1 hd
        have ok0 : Ok H1 H1 [] := ⟨fun _ _ h => h, List.nodup_nil, (fun _ h => nomatch h), (fun _ h => nomatch h)⟩
        have grow : ∀ {Z' H' : Hp} {F' : List Addr}, Ext H1 H1 [] Z' H' F' → Grow H1 H' := fun x a u h => x.hh a u h (fun z => nomatch z)
        refine ⟨by rw [← rd.length]; exact hn, H1, ds.map .z, [], ok0, reps_z rd, ?_⟩
        split at hr
        · rename_i t hfn
          split at hr
          · rename_i hc
            cases hr
            refine ⟨_, hfn, fun v H' Z' F' G x2 ok2 rf rt => ?_⟩
            have hF : F' = [] := by
              have : pick ([] : List Bool) vs = [] := by simp [pick]
              rw [this] at rf
              cases rf; rfl
            subst hF
            simp only [List.nil_append] at x2 ok2
            have g := grow x2
            have fr' : ∀ a ∈ G, H1 a = none := fun a ha => (x2.ff a ha).elim (fun z => nomatch z) id
            have ok3 := ok1.left.grown g fr' ok2.nod ok2.mu
            refine post v H' Z1 F1 G ((x1.sub fun a ha => List.mem_append_left _ ha).trans (Ext.grown g fr')) ok3 (er1.grown g) (.t (rt.clean hc)) fun hp => ?_
            obtain ⟨a, b, c⟩ := pp hp
            exact ⟨a, b, c.1, fun q u z => g q u (c.2 q u z)⟩
          · cases hr
        · rename_i x hfn
          split at hr
          · rename_i hc
            cases hr
            refine ⟨_, hfn, fun d H' Z' F' x2 ok2 rf xr => ?_⟩
            have g := grow x2
            have ok3 := ok1.left.grown (G' := []) g (fun _ z => nomatch z) List.nodup_nil fun _ z => nomatch z
            simp only [List.append_nil] at ok3
            have x3 : Ext Z1 H1 F1 Z1 H' F1 := by simpa using (Ext.grown (Z := Z1) (F := F1) (G' := []) g fun _ z => nomatch z)
            exact post d H' Z1 F1 ((x1.sub fun a ha => List.mem_append_left _ ha).trans x3) ok3 (er1.grown g) (xr.imm hc)
          · cases hr
        · cases hr
      · cases hr
end

/-! ### a call that takes its arguments -/
@[simp] def takeIO : List Bool → List Opd → En → Option (List T × En)
  | _, [], env => some ([], env)
  | io, o :: os, env => match (if io.headD false = true then o.mv env else o.take env) with
    | none => none
    | some (t, e1) => match takeIO io.tail os e1 with
      | none => none
      | some (ts, e2) => some (t :: ts, e2)
@[simp] def putIO : List Bool → List Opd → List T → En → Option En
  | [], _, [], env => some env
  | true :: io, .s i :: os, t :: ts, env => if i < env.length then putIO io os ts (env.set i (some t)) else none
  | true :: io, .t _ :: os, _ :: ts, env => putIO io os ts env
  | false :: io, _ :: os, ts, env => putIO io os ts env
  | _, _, _, _ => none
def sCallT (n : Nat) (io : List Bool) (Fn : FSem) (fr : EM (List Opd)) : EM Opd := fun env => match fr env with
  | none => none
  | some (.ex x e) => some (.ex x e)
  | some (.ok os e) => match takeIO io os e with
    | none => none
    | some (ts, e1) => if ts.length = n then match Fn ts with
      | some (.rt t fin) => match putIO io os fin e1 with
        | some e2 => some (.ok (.t t) e2)
        | none => none
      | some (.ex x fin) => match putIO io os fin e1 with
        | some e2 => some (.ex x e2)
        | none => none
      | none => none
      else none
section
variable {K : PySem.W.Frag} {W : WX} {σ : L2.St}
theorem takeIO_ok {H : Hp} : ∀ {io : List Bool} {os : List Opd} {env env' : En} {ts : List T} {vs : List V} {Z : Hp} {F G : List Addr}, Ok Z H (F ++ G) → EnvR K Z H env σ F → OpdRs K Z H σ os vs G → takeIO io os env = some (ts, env') →
    ∃ Z' F' G', Ext Z H (F ++ G) Z' H (F' ++ G') ∧ Ok Z' H (F' ++ G') ∧ EnvR K Z' H env' σ F' ∧ RepTs K Z' H ts vs G'
  | _, [], env, env', ts, vs, Z, F, G, ok, er, r, e => by
    simp only [takeIO, Option.some.injEq, Prod.mk.injEq] at e
    obtain ⟨rfl, rfl⟩ := e
    cases r
    exact ⟨Z, F, [], Ext.refl, ok, er, .nil⟩
  | io, o :: os, env, env', ts, vs, Z, F, G, ok, er, r, e => by
    cases r with
    | @cons _ v G1 _ vs G2 a b =>
      simp only [takeIO] at e
      split at e
      · cases e
      · rename_i t e1 h1
        split at e
        · cases e
        · rename_i ts' e2 h2
          simp only [Option.some.injEq, Prod.mk.injEq] at e
          obtain ⟨rfl, rfl⟩ := e
          have ok' : Ok Z H ((F ++ G1) ++ G2) := by rw [List.append_assoc]; exact ok
          have one : ∃ Z1 F1 G1', Ext Z H (F ++ G1) Z1 H (F1 ++ G1') ∧ Ok Z1 H (F1 ++ G1') ∧ EnvR K Z1 H e1 σ F1 ∧ RepT K Z1 H t v G1' := by
            split at h1
            · obtain ⟨F1, G1', q⟩ := mv_ok ok'.left er a h1
              exact ⟨Z, F1, G1', q⟩
            · exact take_ok ok'.left er a h1
          obtain ⟨Z1, F1, G1', x1, ok1, er1, r1⟩ := one
          have okb : Ok Z1 H ((F1 ++ G1') ++ G2) := Ok.beside x1 ok1 ok'
          have pm1 : ((F1 ++ G1') ++ G2).Perm ((F1 ++ G2) ++ G1') := by
            simp only [List.append_assoc]
            exact List.Perm.append_left F1 List.perm_append_comm
          have okc : Ok Z1 H ((F1 ++ G2) ++ G1') := okb.perm pm1
          have b' : OpdRs K Z1 H σ os vs G2 := b.later x1 ok' (fun _ _ z => z)
          obtain ⟨Z2, F2, G2', x2, ok2, er2, r2⟩ := takeIO_ok okc.left er1 b' h2
          have okd : Ok Z2 H ((F2 ++ G2') ++ G1') := Ok.beside x2 ok2 okc
          have pm2 : ((F2 ++ G2') ++ G1').Perm (F2 ++ (G1' ++ G2')) := by
            rw [List.append_assoc]
            exact List.Perm.append_left F2 List.perm_append_comm
          refine ⟨Z2, F2, G1' ++ G2', ?_, okd.perm pm2, er2, .cons (r1.frame x2 okc) r2⟩
          have xa : Ext Z H ((F ++ G1) ++ G2) Z1 H ((F1 ++ G1') ++ G2) := x1.wide
          have xb : Ext Z1 H ((F1 ++ G2) ++ G1') Z2 H ((F2 ++ G2') ++ G1') := x2.wide
          have xc := (xa.sub fun a ha => pm1.mem_iff.mpr ha).trans xb
          have xd := xc.sub (F2 := F2 ++ (G1' ++ G2')) fun a ha => pm2.mem_iff.mpr ha
          rw [List.append_assoc] at xd
          exact xd
theorem set_same {σ : L2.St} {i : Nat} {v : V} (h : σ[i]? = some (some v)) : σ.set i (some v) = σ := by
  apply List.ext_getElem?
  intro j
  by_cases hj : i = j
  · subst hj
    obtain ⟨hl, _⟩ := List.getElem?_eq_some_iff.mp h
    rw [List.getElem?_set_self hl, h]
  · rw [List.getElem?_set_ne hj]
theorem putIO_ok {Z0 H0 Z H : Hp} : ∀ {io : List Bool} {os : List Opd} {vs : List V} {G0 : List Addr} {fin : List T} {env env' : En} {F Ff : List Addr}, OpdRs K Z0 H0 σ os vs G0 → Ok Z H (F ++ Ff) → EnvR K Z H env σ F → RepTs K Z H fin (pick io vs) Ff → putIO io os fin env = some env' →
    ∃ F', Ext Z H (F ++ Ff) Z H F' ∧ Ok Z H F' ∧ EnvR K Z H env' σ F'
  | [], os, vs, G0, [], env, env', F, Ff, _, ok, er, r, e => by
    simp only [putIO, Option.some.injEq] at e; subst e
    exact ⟨F, Ext.subF fun a ha => List.mem_append_left _ ha, ok.left, er⟩
  | true :: io, .s i :: os, vs, G0, t :: fin, env, env', F, Ff, or, ok, er, r, e => by
    cases or with
    | @cons _ v G1 _ vs G2 a b =>
      cases a with
      | s ha =>
        simp only [pick] at r
        cases r with
        | @cons _ _ _ _ F1 F2 r1 r2 =>
          simp only [putIO] at e
          split at e
          · rename_i hi
            have ok' : Ok Z H ((F ++ F1) ++ F2) := by rw [List.append_assoc]; exact ok
            obtain ⟨F3, x3, ok3, er3⟩ := er.put ok'.left r1 hi
            rw [set_same ha] at er3
            have okb := Ok.beside x3 ok3 ok'
            obtain ⟨F4, x4, ok4, er4⟩ := putIO_ok b okb er3 r2 e
            refine ⟨F4, ?_, ok4, er4⟩
            have z := (x3.wide (G := F2)).trans x4
            rw [List.append_assoc] at z
            exact z
          · cases e
  | true :: io, .t u :: os, vs, G0, t :: fin, env, env', F, Ff, or, ok, er, r, e => by
    cases or with
    | @cons _ v G1 _ vs G2 a b =>
      simp only [pick] at r
      cases r with
      | @cons _ _ _ _ F1 F2 r1 r2 =>
        simp only [putIO] at e
        have sl : (F ++ F2).Sublist (F ++ (F1 ++ F2)) := List.Sublist.append_left (List.sublist_append_right _ _) F
        obtain ⟨F4, x4, ok4, er4⟩ := putIO_ok b (ok.subF sl) er r2 e
        exact ⟨F4, (Ext.subF fun a ha => sl.subset ha).trans x4, ok4, er4⟩
  | false :: io, o :: os, vs, G0, fin, env, env', F, Ff, or, ok, er, r, e => by
    cases or with
    | @cons _ v G1 _ vs G2 a b =>
      simp only [pick] at r
      simp only [putIO] at e
      exact putIO_ok b ok er r e
  | [], _, _, _, _ :: _, _, _, _, _, _, _, _, _, e => by simp [putIO] at e
  | true :: _, [], _, _, _, _, _, _, _, _, _, _, _, e => by simp [putIO] at e
  | false :: _, [], _, _, _, _, _, _, _, _, _, _, _, e => by simp [putIO] at e
  | true :: _, .k _ :: _, _, _, _, _, _, _, _, _, _, _, _, e => by simp [putIO] at e
  | true :: _, .s _ :: _, _, _, [], _, _, _, _, _, _, _, _, e => by simp [putIO] at e
  | true :: _, .t _ :: _, _, _, [], _, _, _, _, _, _, _, _, e => by simp [putIO] at e
theorem callT_ok {H : Hp} {n : Nat} {io : List Bool} {Fn : FSem} {fr : EM (List Opd)} {Q : VK} (h : tQ K W false (sCallT n io Fn fr) σ H Q) : tAQ K W false fr σ H fun vs H1 => spF K n io Fn vs H1 Q fun cls d H' => W cls d σ H' := by
  obtain ⟨Z, env, F, ok, er, r, hr, post⟩ := h
  unfold sCallT at hr
  split at hr
  · cases hr
  · rename_i x e hf
    cases hr
    exact ⟨Z, env, F, ok, er, _, hf, post⟩
  · rename_i os e hf
    split at hr
    · cases hr
    · rename_i ts e1 ht
      split at hr
      · rename_i hn
        refine ⟨Z, env, F, ok, er, _, hf, fun vs H1 Z1 F1 G1 x1 ok1 er1 or1 _ => ?_⟩
        obtain ⟨Z2, F2, G2, x2, ok2, er2, r2⟩ := takeIO_ok ok1 er1 or1 ht
        have pm : (F2 ++ G2).Perm (G2 ++ F2) := List.perm_append_comm
        have okp : Ok Z2 H1 (G2 ++ F2) := ok2.perm pm
        have x12 : Ext Z H F Z2 H1 (G2 ++ F2) := (x1.trans x2).sub fun a ha => pm.mem_iff.mpr ha
        refine ⟨by rw [← r2.length]; exact hn, Z2, ts, G2, ok2.right, r2, ?_⟩
        split at hr
        · rename_i t fin hfn
          split at hr
          · rename_i e2 hp
            cases hr
            refine ⟨_, hfn, fun v H' Z' F' G x3 ok3 rf rt => ?_⟩
            have okb : Ok Z' H' ((F' ++ G) ++ F2) := Ok.beside x3 ok3 okp
            have er3 := er2.frame x3 okp
            have pm2 : ((F' ++ G) ++ F2).Perm ((F2 ++ F') ++ G) := by
              have : (F' ++ G ++ F2).Perm (F2 ++ (F' ++ G)) := List.perm_append_comm
              rw [← List.append_assoc] at this
              exact this
            have okc := okb.perm pm2
            obtain ⟨F4, x4, ok4, er4⟩ := putIO_ok or1 okc.left er3 rf hp
            have okd : Ok Z' H' (F4 ++ G) := Ok.beside x4 ok4 okc
            refine post v H' Z' F4 G ?_ okd er4 (.t rt) fun z => nomatch z
            exact ((x12.trans x3.wide).sub fun a ha => pm2.mem_iff.mpr ha).trans (x4.wide (G := G))
          · cases hr
        · rename_i y fin hfn
          split at hr
          · rename_i e2 hp
            cases hr
            refine ⟨_, hfn, fun d H' Z' F' x3 ok3 rf xr => ?_⟩
            have okb : Ok Z' H' (F' ++ F2) := Ok.beside x3 ok3 okp
            have er3 := er2.frame x3 okp
            have pm2 : (F' ++ F2).Perm (F2 ++ F') := List.perm_append_comm
            have okc := okb.perm pm2
            obtain ⟨F4, x4, ok4, er4⟩ := putIO_ok or1 okc er3 rf hp
            exact post d H' Z' F4 (((x12.trans x3.wide).sub fun a ha => pm2.mem_iff.mpr ha).trans x4) ok4 er4 xr
          · cases hr
        · cases hr
      · cases hr
end
section
variable {X : Cx} {W : WX} {k n : Nat} {f : Addr} {fd : FuncData} {ps : List Str} {io : List Bool} {Fn : FSem} {x : Str} {p pos : Pos} {e : Expr} {es : List Expr} {fr : EM (List Opd)} {pp : Bool}
theorem pq_callL (tk : Takes X W) (F : FnOk X.prog X.w X.K X.mg X.base (L2.CX X.prog X.w) k f fd ps (spF X.K n [] Fn)) (hr : Room k X.A) (hg : Gl X x) (hm : X.mg x = some (.ref f)) (hk : PySem.W.keepIn X.K (.ref f) = true) (hb : Binds X.K fd ps []) (ha : PAQ X W pp (e :: es) fr)
    (hdb : (x == ("__debug__" : Str)) = false := by decide) (he : starEach (e :: es) X.env = (false, eval e X.env) :: starEach es X.env := by rfl) (hpl : (backTo pos (starEach es X.env)).any (·.1) = false := by rfl) :
    PQ X W pp (.Call (.Name x p) (e :: es) [] pos) (sCallL n Fn fr) :=
  (pe_callS F hr hg hm hk hb (fun σ => passAt tk σ) ha hdb he hpl).imp fun _ _ _ h => callL_ok h
theorem pq_callT (tk : Takes X W) (F : FnOk X.prog X.w X.K X.mg X.base (L2.CX X.prog X.w) k f fd ps (spF X.K n io Fn)) (hr : Room k X.A) (hg : Gl X x) (hm : X.mg x = some (.ref f)) (hk : PySem.W.keepIn X.K (.ref f) = true) (hb : Binds X.K fd ps []) (ha : PAQ X W pp (e :: es) fr)
    (hdb : (x == ("__debug__" : Str)) = false := by decide) (he : starEach (e :: es) X.env = (false, eval e X.env) :: starEach es X.env := by rfl) (hpl : (backTo pos (starEach es X.env)).any (·.1) = false := by rfl) :
    PQ X W false (.Call (.Name x p) (e :: es) [] pos) (sCallT n io Fn fr) :=
  (pe_callS F hr hg hm hk hb (fun σ => passAt tk σ) (ha.imp fun _ _ _ z => tAQ_any z : PAQ X W false (e :: es) fr) hdb he hpl).imp fun _ _ _ h => callT_ok h
end
end DL

/-! DL10: lists that are written. -/
namespace DL
open PySem PySem.Spec PyProof.Rows L2

section
variable {K : PySem.W.Frag} {Z H : Hp}
theorem RepTs.snoc {ts : List T} {vs : List V} {F : List Addr} {t : T} {v : V} {G : List Addr} (r : RepTs K Z H ts vs F) (a : RepT K Z H t v G) : RepTs K Z H (ts ++ [t]) (vs ++ [v]) (F ++ G) := by
  induction ts generalizing vs F with
  | nil =>
    cases r
    have z := RepTs.cons a RepTs.nil
    simpa using z
  | cons x xs ih =>
    cases r with
    | cons r s =>
      rw [List.append_assoc]
      exact .cons r (ih s)
theorem RepTs.last {ts : List T} {vs : List V} {F : List Addr} {t : T} (r : RepTs K Z H ts vs F) (e : ts.getLast? = some t) :
    ∃ v F1 G, vs[vs.length - 1]? = some v ∧ RepTs K Z H ts.dropLast vs.dropLast F1 ∧ RepT K Z H t v G ∧ F = F1 ++ G := by
  induction ts generalizing vs F with
  | nil => simp at e
  | cons x xs ih =>
    cases r with
    | @cons _ v _ vs F1 F2 r s =>
      cases xs with
      | nil =>
        simp at e; subst e
        cases s
        exact ⟨v, [], F1, by simp, .nil, r, by simp⟩
      | cons y ys =>
        rw [List.getLast?_cons_cons] at e
        obtain ⟨w, A, G, h1, h2, h3, h4⟩ := ih s e
        have hl := s.length
        cases vs with
        | nil => simp at hl
        | cons v2 vs =>
          refine ⟨w, F1 ++ A, G, ?_, ?_, h3, by simp [h4]⟩
          · simpa using h1
          · simp only [List.dropLast_cons_cons]
            exact .cons r h2
theorem RepTs.setAt {ts : List T} {vs : List V} {F : List Addr} {t : T} {v : V} {G : List Addr} (r : RepTs K Z H ts vs F) (a : RepT K Z H t v G) : ∀ {j : Nat}, j < ts.length →
    ∃ A B C, F = A ++ B ++ C ∧ RepTs K Z H (ts.set j t) (vs.set j v) (A ++ G ++ C) := by
  induction ts generalizing vs F with
  | nil => intro j h; simp at h
  | cons x xs ih =>
    cases r with
    | @cons _ w _ ws F1 F2 r s =>
      intro j h
      cases j with
      | zero => exact ⟨[], F1, F2, by simp, by simpa using RepTs.cons a s⟩
      | succ j =>
        obtain ⟨A, B, C, e, h2⟩ := ih s (j := j) (by simpa using h)
        refine ⟨F1 ++ A, B, C, by simp [e], ?_⟩
        have z := RepTs.cons r h2
        simpa using z
theorem RepTs.rev {ts : List T} {vs : List V} {F : List Addr} (r : RepTs K Z H ts vs F) : ∃ F', F'.Perm F ∧ RepTs K Z H ts.reverse vs.reverse F' := by
  induction ts generalizing vs F with
  | nil => cases r; exact ⟨[], .refl _, .nil⟩
  | cons x xs ih =>
    cases r with
    | @cons _ w _ ws F1 F2 r s =>
      obtain ⟨F', p, h⟩ := ih s
      refine ⟨F' ++ F1, ?_, by simpa using h.snoc r⟩
      exact (List.perm_append_comm).trans (List.Perm.append_left F1 p)
theorem RepTs.app {ts us : List T} {vs ws : List V} {F G : List Addr} (r : RepTs K Z H ts vs F) (s : RepTs K Z H us ws G) : RepTs K Z H (ts ++ us) (vs ++ ws) (F ++ G) := by
  induction ts generalizing vs F with
  | nil => cases r; simpa using s
  | cons x xs ih =>
    cases r with
    | cons a b =>
      rw [List.append_assoc]
      exact .cons a (ih b)
end
/-- the list in a slot is written -/
theorem slot_upd {K : PySem.W.Frag} {Z H : Hp} {σ : L2.St} {env : En} {F G : List Addr} {i : Nat} {ts : List T} {v : V} (ok : Ok Z H (F ++ G)) (er : EnvR K Z H env σ F) (e : env[i]? = some (some (.lst ts))) (hv : σ[i]? = some (some v)) :
    ∃ a vs Fts, v = .ref a ∧ H a = some (.lst vs) ∧ RepTs K Z H ts vs Fts ∧ (∀ b ∈ Fts, b ∈ F) ∧ Fts.Nodup ∧ (∀ b ∈ Fts, b ∉ G) ∧ a ∉ Fts ∧
      ∀ ts' vs' Fts', RepTs K Z H ts' vs' Fts' → (∀ b ∈ Fts', b ∈ Fts ∨ b ∈ G) → Fts'.Nodup →
        ∃ F', Ext Z H (F ++ G) Z (upd H a (.lst vs')) F' ∧ Ok Z (upd H a (.lst vs')) F' ∧ EnvR K Z (upd H a (.lst vs')) (env.set i (some (.lst ts'))) σ F' ∧ a ∈ F ∧ (∀ b ∈ F', b ∈ Fts' ∨ (b ∈ F ∧ b ∉ Fts)) := by
  obtain ⟨A, Fi, B, o, e1, e2, e3, e4⟩ := er.lens e
  rw [hv] at e2
  have e2' := Option.some.inj e2
  subst e2'
  cases e3 with
  | so r =>
    cases r with
    | @lst a vs _ Fts ha r =>
      subst e1
      have nd : (A ++ (a :: Fts) ++ B ++ G).Nodup := by simpa using ok.nod
      simp only [List.append_assoc, List.nodup_append, List.mem_append, List.cons_append, List.nodup_cons, List.mem_cons] at nd
      obtain ⟨ndA, ⟨na, ndT, ndBG, dT⟩, dA⟩ := nd
      obtain ⟨ndB, ndG, dB⟩ := ndBG
      refine ⟨a, vs, Fts, rfl, ha, r, fun b hb => by simp [hb], ndT, fun b hb m => dT b hb b (.inr m) rfl, (fun h => na (.inl h)), fun ts' vs' Fts' r' hs nd' => ?_⟩
      have naF : ∀ b ∈ Fts', b ≠ a := fun b hb e => by
        subst e
        rcases hs b hb with h | h
        · exact na (.inl h)
        · exact na (.inr (.inr h))
      have dAF : ∀ b ∈ A, b ≠ a ∧ b ∉ Fts' ∧ b ∉ B := fun b hb => ⟨fun e => dA b hb a (.inl rfl) e, fun h => by
        rcases hs b h with h | h
        · exact dA b hb b (.inr (.inl h)) rfl
        · exact dA b hb b (.inr (.inr (.inr h))) rfl, fun h => dA b hb b (.inr (.inr (.inl h))) rfl⟩
      have dFB : ∀ b ∈ Fts', b ∉ B := fun b hb h => by
        rcases hs b hb with h' | h'
        · exact dT b h' b (.inl h) rfl
        · exact dB b h b h' rfl
      have aB : a ∉ B := fun h => na (.inr (.inl h))
      have aT : a ∉ Fts := fun h => na (.inl h)
      have tt : ∀ c xs, Rd H c (.tup xs) → Rd (upd H a (.lst vs')) c (.tup xs) := fun c xs h => by
        have hc : c ≠ a := fun z => by
          subst z
          rcases h with h | ⟨o, h⟩ <;> rw [ha] at h <;> cases h
        rcases h with h | ⟨o, h⟩
        · exact .inl (by rw [upd_ne hc]; exact h)
        · exact .inr ⟨o, by rw [upd_ne hc]; exact h⟩
      have zsub : ∀ c o, Z c = some o → upd H a (.lst vs') c = some o := fun c o h => by
        have hc : c ≠ a := fun z => by
          subst z
          rw [ok.dis c (by simp)] at h; cases h
        rw [upd_ne hc]; exact ok.sub c o h
      have r2 : RepTs K Z (upd H a (.lst vs')) ts' vs' Fts' := r'.keep (fun _ _ h => h) tt fun b hb o h => by rw [upd_ne (naF b hb)]; exact h
      have er' := e4 Z (upd H a (.lst vs')) (fun _ _ h => h) tt (fun b hb o h => by
        have hne : b ≠ a := fun z => by
          subst z
          rcases List.mem_append.mp hb with hb | hb
          · exact (dAF b hb).1 rfl
          · exact aB hb
        rw [upd_ne hne]; exact h) (some (.lst ts')) (some (.ref a)) (a :: Fts') (.so (.lst upd_same r2))
      rw [set_same hv] at er'
      have memF : ∀ b ∈ A ++ (a :: Fts') ++ B, b ∈ (A ++ (a :: Fts) ++ B) ++ G := fun b hb => by
        simp only [List.append_assoc, List.mem_append, List.cons_append, List.mem_cons] at hb ⊢
        rcases hb with h | h | h | h
        · exact .inl h
        · exact .inr (.inl h)
        · rcases hs b h with h | h
          · exact .inr (.inr (.inl h))
          · exact .inr (.inr (.inr (.inr h)))
        · exact .inr (.inr (.inr (.inl h)))
      refine ⟨A ++ (a :: Fts') ++ B, ⟨fun _ _ h => h, fun c o h n => ?_, fun b hb => .inl (memF b hb), fun _ _ h => .inl h⟩, ⟨zsub, ?_, fun b hb => ok.dis b (memF b hb), fun b hb => ?_⟩, er', by simp, fun b hb => ?_⟩
      · have hc : c ≠ a := fun z => n (by simp [z])
        rw [upd_ne hc]; exact h
      · simp only [List.append_assoc, List.nodup_append, List.mem_append, List.cons_append, List.nodup_cons, List.mem_cons]
        refine ⟨ndA, ⟨fun h => ?_, nd', ndB, fun b hb c hc e => ?_⟩, fun b hb c hc e => ?_⟩
        · rcases h with h | h
          · exact naF a h rfl
          · exact aB h
        · subst e; exact dFB b hb hc
        · subst e
          rcases hc with h | h | h
          · exact (dAF b hb).1 h
          · exact (dAF b hb).2.1 h
          · exact (dAF b hb).2.2 h
      · by_cases hba : b = a
        · subst hba; rw [upd_same]; trivial
        · rw [upd_ne hba]; exact ok.mu b (memF b hb)
      · simp only [List.append_assoc, List.mem_append, List.cons_append, List.mem_cons] at hb ⊢
        rcases hb with h | h | h | h
        · exact .inr ⟨.inl h, fun hf => dA b h b (.inr (.inl hf)) rfl⟩
        · exact .inr ⟨.inr (.inl h), fun hf => by rw [h] at hf; exact aT hf⟩
        · exact .inl h
        · exact .inr ⟨.inr (.inr (.inr h)), fun hf => dT b hf b (.inl h) rfl⟩

/-! ### x.append(e), x[k] = e, x.pop(), x.reverse(), x.extend(e) -/
@[simp] def isLst (env : En) (i : Nat) : Bool := match env[i]? with
  | some (some (.lst _)) => true
  | _ => false
def sApp (i : Nat) (f : EM Opd) : SM := fun env => if isLst env i = true then match f env with
  | none => none
  | some (.ex x e) => some (.ex x e)
  | some (.ok o e) => match o.take e with
    | none => none
    | some (t, e') => match e'[i]? with
      | some (some (.lst ts)) => if ts.length < sizeLine then some (.nx (e'.set i (some (.lst (ts ++ [t]))))) else none
      | _ => none
  else none
def sPop (i : Nat) : EM Opd := fun env => match env[i]? with
  | some (some (.lst ts)) => match ts.getLast? with
    | some t => some (.ok (.t t) (env.set i (some (.lst ts.dropLast))))
    | none => none
  | _ => none
def sRev (i : Nat) : SM := fun env => match env[i]? with
  | some (some (.lst ts)) => some (.nx (env.set i (some (.lst ts.reverse))))
  | _ => none
def sSetAt (i : Nat) (fr : EM (List Opd)) : SM := fun env => if isLst env i = true then match fr env with
  | none => none
  | some (.ex x e) => some (.ex x e)
  | some (.ok [o, k] e) => match k.rd e with
    | some (.int j) => match o.take e with
      | none => none
      | some (t, e') => match e'[i]? with
        | some (some (.lst ts)) => match ixN ts.length j with
          | some n => some (.nx (e'.set i (some (.lst (ts.set n t)))))
          | none => none
        | _ => none
    | _ => none
  | _ => none
  else none
def sExt (i : Nat) (f : EM Opd) : SM := fun env => if isLst env i = true then match f env with
  | none => none
  | some (.ex x e) => some (.ex x e)
  | some (.ok o e) => match o.tt e with
    | none => none
    | some u => match u.elsL with
      | none => none
      | some ds => match e[i]? with
        | some (some (.lst ts)) => if ts.length + ds.length ≤ sizeLine then some (.nx (e.set i (some (.lst (ts ++ ds.map .z))))) else none
        | _ => none
  else none
section
variable {K : PySem.W.Frag} {W : WX} {P : List Nat} {D : Ends} {σ : L2.St} {H : Hp} {f : EM Opd} {i : Nat}
theorem isLst_at {Z : Hp} {F : List Addr} {env : En} (sub : ∀ a o, Z a = some o → H a = some o) (er : EnvR K Z H env σ F) (h : isLst env i = true) : ∃ v a vs, σ[i]? = some (some v) ∧ v = .ref a ∧ H a = some (.lst vs) := by
  unfold isLst at h
  split at h
  · rename_i ts q
    obtain ⟨v, Fi, h1, h2, _⟩ := er.at q
    cases h2 with
    | lst h2 _ => exact ⟨_, _, _, h1, rfl, h2⟩
  · cases h
theorem ty_lst {a : Addr} {vs : List V} (h : H a = some (.lst vs)) : tyV K "list" (.ref a) H := Or.inl ⟨rfl, _, SqL.of h⟩
theorem app_ok (q : tS K W P (sApp i f) D σ H) : tDrop (tBM K "list" rAppend (tVar i) (tCons (tQ K W false f) tNil)) D σ H := by
  obtain ⟨Z, env, F, ok, er, o, ho, post⟩ := q
  unfold sApp at ho
  split at ho
  · rename_i hl
    obtain ⟨v, a, vs, hv, rfl, ha⟩ := isLst_at ok.sub er hl
    refine ⟨_, hv, ty_lst ha, ?_⟩
    split at ho
    · cases ho
    · rename_i x e hf
      cases ho
      exact ⟨Z, env, F, ok, er, _, hf, fun d H' Z' F' a b c f => post d σ H' Z' F' a b c f Pin.refl⟩
    · rename_i o e hf
      split at ho
      · cases ho
      · rename_i t e' ht
        split at ho
        · rename_i ts he
          split at ho
          · rename_i hlt
            cases ho
            refine ⟨Z, env, F, ok, er, _, hf, fun y H1 Z1 F1 G1 x1 ok1 er1 or1 _ => ?_⟩
            obtain ⟨Z2, F2, G2, x2, ok2, er2, r2⟩ := take_ok ok1 er1 or1 ht
            obtain ⟨a', vs', Fts, e1, e2, r3, _, ndT, dTG, _, up⟩ := slot_upd ok2 er2 he hv
            cases e1
            obtain ⟨F4, x4, ok4, er4, _⟩ := up (ts ++ [t]) (vs' ++ [y]) (Fts ++ G2) (r3.snoc r2) (fun b hb => List.mem_append.mp hb) (List.nodup_append.mpr ⟨ndT, (List.nodup_append.mp ok2.nod).2.1, fun b hb c hc e => by subst e; exact dTG b hb hc⟩)
            refine ⟨a, vs', y, rfl, rfl, e2, by rw [← r3.length]; exact hlt, ?_⟩
            exact post σ _ Z2 F4 ((x1.trans x2).trans x4) ok4 er4 Pin.refl
          · cases ho
        · cases ho
  · cases ho
theorem ext_ok (q : tS K W P (sExt i f) D σ H) : tDrop (tBM K "list" rExtend (tVar i) (tCons (tQ K W false f) tNil)) D σ H := by
  obtain ⟨Z, env, F, ok, er, o, ho, post⟩ := q
  unfold sExt at ho
  split at ho
  · rename_i hl
    obtain ⟨v, a, vs, hv, rfl, ha⟩ := isLst_at ok.sub er hl
    refine ⟨_, hv, ty_lst ha, ?_⟩
    split at ho
    · cases ho
    · rename_i x e hf
      cases ho
      exact ⟨Z, env, F, ok, er, _, hf, fun d H' Z' F' a b c f => post d σ H' Z' F' a b c f Pin.refl⟩
    · rename_i o e hf
      split at ho
      · cases ho
      · rename_i u hu
        split at ho
        · cases ho
        · rename_i ds hd
          split at ho
          · rename_i ts he
            split at ho
            · rename_i hlt
              cases ho
              refine ⟨Z, env, F, ok, er, _, hf, fun y H1 Z1 F1 G1 x1 ok1 er1 or1 _ => ?_⟩
              obtain ⟨b, ws, rfl, hb, rw'⟩ := (or1.seen er1 hu).elsL ok1.sub hd
              obtain ⟨a', vs', Fts, e1, e2, r3, _, ndT, dTG, _, up⟩ := slot_upd ok1 er1 he hv
              cases e1
              obtain ⟨F4, x4, ok4, er4, _⟩ := up (ts ++ ds.map .z) (vs' ++ ws) Fts (by simpa using r3.app (reps_z rw')) (fun b hb => .inl hb) ndT
              refine ⟨a, b, vs', ws, rfl, rfl, e2, hb, by rw [← r3.length, ← rw'.length]; exact hlt, ?_⟩
              exact post σ _ Z1 F4 (x1.trans x4) ok4 er4 Pin.refl
            · cases ho
          · cases ho
  · cases ho
theorem pop_ok {Q : VK} (q : tQ K W false (sPop i) σ H Q) : tBM0 K "list" rPop (tVar i) σ H Q := by
  obtain ⟨Z, env, F, ok, er, r, hr, post⟩ := q
  unfold sPop at hr
  split at hr
  · rename_i ts he
    split at hr
    · rename_i t ht
      cases hr
      obtain ⟨v, Fi, h1, h2, _⟩ := er.at he
      have ok0 : Ok Z H (F ++ []) := by simpa using ok
      obtain ⟨a, vs, Fts, rfl, e2, r3, hsub, ndT, _, naT, up⟩ := slot_upd ok0 er he h1
      obtain ⟨y, F1, G, hy, r4, r5, eF⟩ := r3.last ht
      subst eF
      obtain ⟨F4, x4, ok4, er4, ha, hb⟩ := up ts.dropLast vs.dropLast F1 r4 (fun b hb => .inl (by simp [hb])) (List.nodup_append.mp ndT).1
      simp only [List.append_nil] at x4
      refine ⟨_, h1, ty_lst e2, a, vs, y, rfl, rfl, e2, hy, ?_⟩
      have naG : ∀ b ∈ G, b ≠ a := fun b hg e => naT (by rw [← e]; simp [hg])
      have ok5 : Ok Z (upd H a (.lst vs.dropLast)) (F4 ++ G) := ⟨ok4.sub, List.nodup_append.mpr ⟨ok4.nod, (List.nodup_append.mp ndT).2.1, fun b hf c hg e => by
          subst e
          rcases hb b hf with z | z
          · exact (List.nodup_append.mp ndT).2.2 b z b hg rfl
          · exact z.2 (by simp [hg])⟩, fun b h => (List.mem_append.mp h).elim (ok4.dis b) fun h => ok.dis b (hsub b (by simp [h])), fun b h => (List.mem_append.mp h).elim (ok4.mu b) fun h => by rw [upd_ne (naG b h)]; exact ok.mu b (hsub b (by simp [h]))⟩
      have tt : ∀ c xs, Rd H c (.tup xs) → Rd (upd H a (.lst vs.dropLast)) c (.tup xs) := x4.tt ok
      refine post y _ Z F4 G ⟨x4.zz, x4.hh, fun b h => (List.mem_append.mp h).elim (x4.ff b) fun h => .inl (hsub b (by simp [h])), x4.zn⟩ ok5 er4 (.t ?_) fun z => nomatch z
      exact r5.keep (fun _ _ h => h) tt fun b hg o h => by rw [upd_ne (naG b hg)]; exact h
    · cases hr
  · cases hr
theorem rev_ok (q : tS K W P (sRev i) D σ H) : tDrop (tBM0 K "list" rReverse (tVar i)) D σ H := by
  obtain ⟨Z, env, F, ok, er, r, hr, post⟩ := q
  unfold sRev at hr
  split at hr
  · rename_i ts he
    cases hr
    obtain ⟨v, Fi, h1, h2, _⟩ := er.at he
    have ok0 : Ok Z H (F ++ []) := by simpa using ok
    obtain ⟨a, vs, Fts, rfl, e2, r3, hsub, ndT, _, naT, up⟩ := slot_upd ok0 er he h1
    obtain ⟨F', pm, r4⟩ := r3.rev
    obtain ⟨F4, x4, ok4, er4, ha, hb⟩ := up ts.reverse vs.reverse F' r4 (fun b hb => .inl (pm.mem_iff.mp hb)) (pm.nodup_iff.mpr ndT)
    simp only [List.append_nil] at x4
    exact ⟨_, h1, ty_lst e2, a, vs, rfl, rfl, e2, post σ _ Z F4 x4 ok4 er4 Pin.refl⟩
  · cases hr
theorem setAt_ok {p1 p2 : Bool} {fe fk : EM Opd} (q : tS K W P (sSetAt i (sCons p2 fe (sCons true fk sNil))) D σ H) : tAsg (tQ K W p1 fe) (gSub (tVar i) (tQ K W p2 fk) rSetL) D σ H := by
  -- e, then x, then k
  have hlst : ∃ v, σ[i]? = some (some v) := by
    obtain ⟨Z, env, F, ok, er, o, ho, post⟩ := q
    unfold sSetAt at ho
    split at ho
    · rename_i hl
      obtain ⟨v, _, _, hv, _⟩ := isLst_at ok.sub er hl
      exact ⟨v, hv⟩
    · cases ho
  have main : tAQ K W (p1 && p2) (sCons p2 fe (sCons true fk sNil)) σ H (fun xs H2 => ∃ v, σ[i]? = some (some v) ∧ rSetL v (xs.getD 1 .non) (xs.getD 0 .non) H2 fun H3 => D.nx σ H3) := by
    obtain ⟨Z, env, F, ok, er, o, ho, post⟩ := q
    unfold sSetAt at ho
    split at ho
    case isFalse => cases ho
    split at ho
    · cases ho
    · rename_i x e hf
      cases ho
      exact ⟨Z, env, F, ok, er, _, hf, fun d H' Z' F' a b c f => post d σ H' Z' F' a b c f Pin.refl⟩
    · rename_i o k e hf
      split at ho
      · rename_i j hk
        split at ho
        · cases ho
        · rename_i t e' ht
          split at ho
          · rename_i ts he
            split at ho
            · rename_i n hn
              cases ho
              refine ⟨Z, env, F, ok, er, _, hf, fun vs H1 Z1 F1 G1 x1 ok1 er1 or1 _ => ?_⟩
              obtain ⟨x, y, A, B, rfl, ra, rb⟩ := or1.two
              have hy := (rb.look ok1.sub er1 hk).v_int
              subst hy
              -- the value's footprint within G1
              cases or1 with
              | @cons _ _ GA _ _ GB a1 b1 =>
              have okA : Ok Z1 H1 (F1 ++ GA) := ok1.subF (by rw [← List.append_assoc]; exact List.sublist_append_left _ _)
              have xA : Ext Z H F Z1 H1 (F1 ++ GA) := x1.sub fun b hb => by
                simp only [List.mem_append] at hb ⊢
                rcases hb with h | h
                · exact .inl h
                · exact .inr (.inl h)
              obtain ⟨Z2, F2, G2, x2, ok2, er2, r2⟩ := take_ok okA er1 a1 ht
              obtain ⟨v, Fi, hv, _, _⟩ := er2.at he
              obtain ⟨a', ws, Fts, rfl, e2, r3, _, ndT, dTG, _, up⟩ := slot_upd ok2 er2 he hv
              have hnlt : n < ts.length := (ixN_seq hn).2.1
              obtain ⟨A', B', C', eF, r4⟩ := r3.setAt r2 hnlt
              subst eF
              have nd4 : (A' ++ G2 ++ C').Nodup := by
                have ndG := (List.nodup_append.mp ok2.nod).2.1
                simp only [List.append_assoc, List.nodup_append, List.mem_append] at ndT ⊢
                obtain ⟨n1, ⟨n2, n3, n4⟩, n5⟩ := ndT
                refine ⟨n1, ⟨ndG, n3, fun b hb c hc e => ?_⟩, fun b hb c hc e => ?_⟩
                · subst e; exact dTG b (by simp [hc]) hb
                · subst e
                  rcases hc with h | h
                  · exact dTG b (by simp [hb]) h
                  · exact n5 b hb b (.inr h) rfl
              obtain ⟨F4, x4, ok4, er4, _⟩ := up (ts.set n t) (ws.set n x) (A' ++ G2 ++ C') r4 (fun b hb => by
                simp only [List.append_assoc, List.mem_append] at hb ⊢
                rcases hb with h | h | h
                · exact .inl (.inl h)
                · exact .inr h
                · exact .inl (.inr (.inr h))) nd4
              refine ⟨_, hv, a', ws, j, n, rfl, rfl, e2, by rw [← r3.length]; exact hn, ?_⟩
              exact post σ _ Z2 F4 ((xA.trans x2).trans x4) ok4 er4 Pin.refl
            · cases ho
          · cases ho
      · cases ho
    · cases ho
  have z := two_ok main
  -- the name is read between the two
  obtain ⟨v, hv⟩ := hlst
  refine tQ_mono z fun x H1 hx => ⟨v, hv, tQ_mono hx fun y H2 ⟨v', hv', hr⟩ => ?_⟩
  rw [hv] at hv'
  have e := Option.some.inj (Option.some.inj hv')
  subst e
  exact hr
end
section
variable {X : Cx} {W : WX} {P : List Nat} {e e2 : Expr} {pos p1 p2 p3 : Pos} {x : Str} {i : Nat} {p pa pb : Bool} {f fa fb : EM Opd}
theorem psq_append (hx : PE X (.Name x p1) (tVar i)) (he : PQ X W p e f) (hs : swapsWith (.Call (.Attribute (.Name x p1) "append" p2) [e] [] p3) none pos.line X.env = pure false := by rfl)
    (hbase : attributeBase (.Name x p1) "append" X.env (eval (.Name x p1) X.env) = eval (.Name x p1) X.env := by rfl)
    (hfew : ((backTo p3 (starEach [e] X.env)).all (fun x => !x.1) && (backToKw p3 (keywordEach [] X.env)).all (fun x => x.1.isSome) && decide ([e].length + ([] : List Keyword).length + (if ([] : List Keyword).isEmpty then 0 else 1) < 30)) = true := by rfl)
    (hline : (p2.endLine == p3.line) = true := by rfl) (hst : starEach [e] X.env = (false, eval e X.env) :: starEach [] X.env := by rfl) (hplain : (backTo p3 (starEach [] X.env)).any (·.1) = false := by rfl) :
    PSQ X W P (.Expr (.Call (.Attribute (.Name x p1) "append" p2) [e] [] p3) pos) (sApp i f) :=
  (ps_expr (pe_bm PySem.F.plainAttrs_list PySem.F.slot_list_append PySem.F.type_list_append mt_append hx (pa_cons (he.imp fun _ _ _ z => tQ_any z : PQ X W false e f) pa_nil hst) hbase hfew hline hst hplain) hs).imp fun D σ H q => app_ok q
theorem psq_extend (hx : PE X (.Name x p1) (tVar i)) (he : PQ X W p e f) (hs : swapsWith (.Call (.Attribute (.Name x p1) "extend" p2) [e] [] p3) none pos.line X.env = pure false := by rfl)
    (hbase : attributeBase (.Name x p1) "extend" X.env (eval (.Name x p1) X.env) = eval (.Name x p1) X.env := by rfl)
    (hfew : ((backTo p3 (starEach [e] X.env)).all (fun x => !x.1) && (backToKw p3 (keywordEach [] X.env)).all (fun x => x.1.isSome) && decide ([e].length + ([] : List Keyword).length + (if ([] : List Keyword).isEmpty then 0 else 1) < 30)) = true := by rfl)
    (hline : (p2.endLine == p3.line) = true := by rfl) (hst : starEach [e] X.env = (false, eval e X.env) :: starEach [] X.env := by rfl) (hplain : (backTo p3 (starEach [] X.env)).any (·.1) = false := by rfl) :
    PSQ X W P (.Expr (.Call (.Attribute (.Name x p1) "extend" p2) [e] [] p3) pos) (sExt i f) :=
  (ps_expr (pe_bm PySem.F.plainAttrs_list PySem.F.slot_list_extend PySem.F.type_list_extend mt_extend hx (pa_cons (he.imp fun _ _ _ z => tQ_any z : PQ X W false e f) pa_nil hst) hbase hfew hline hst hplain) hs).imp fun D σ H q => ext_ok q
theorem pq_pop (hx : PE X (.Name x p1) (tVar i)) (hbase : attributeBase (.Name x p1) "pop" X.env (eval (.Name x p1) X.env) = eval (.Name x p1) X.env := by rfl) (hline : (p2.endLine == p3.line) = true := by rfl) :
    PQ X W false (.Call (.Attribute (.Name x p1) "pop" p2) [] [] p3) (sPop i) :=
  (pe_bm0 PySem.F.plainAttrs_list PySem.F.slot_list_pop PySem.F.type_list_pop mt_pop hx hbase hline).imp fun _ _ _ q => pop_ok q
theorem psq_reverse (hx : PE X (.Name x p1) (tVar i)) (hs : swapsWith (.Call (.Attribute (.Name x p1) "reverse" p2) [] [] p3) none pos.line X.env = pure false := by rfl) (hbase : attributeBase (.Name x p1) "reverse" X.env (eval (.Name x p1) X.env) = eval (.Name x p1) X.env := by rfl) (hline : (p2.endLine == p3.line) = true := by rfl) :
    PSQ X W P (.Expr (.Call (.Attribute (.Name x p1) "reverse" p2) [] [] p3) pos) (sRev i) :=
  (ps_expr (pe_bm0 PySem.F.plainAttrs_list PySem.F.slot_list_reverse PySem.F.type_list_reverse mt_reverse hx hbase hline) hs).imp fun _ _ _ q => rev_ok q
theorem psq_setAt (hx : PE X (.Name x p1) (tVar i)) (hk : PQ X W pb e2 fb) (he : PQ X W pa e fa)
    (ha : ∀ v, assign (.Subscript (.Name x p1) e2 p2) X.env v = (do
      let ov ← holding [v] (eval (.Name x p1) X.env)
      let iv ← holding [v, ov] (eval e2 X.env)
      standAt p2
      holding [v, ov, iv] (setItem ov iv v)
      release [v, ov, iv] []) := by intro _; rfl)
    (hs : swapsWithSole [.Subscript (.Name x p1) e2 p2] e pos.line X.env = pure false := by rfl) (hw : swappedStores [.Subscript (.Name x p1) e2 p2] e X.env = pure none := by rfl)
    (h1 : (assignEach [.Subscript (.Name x p1) e2 p2] X.env).map (·.2) = [assign (.Subscript (.Name x p1) e2 p2) X.env] := by rfl) :
    PSQ X W P (.Assign [.Subscript (.Name x p1) e2 p2] e pos) (sSetAt i (sCons pb fa (sCons true fb sNil))) :=
  (ps_asg he (pg_sub hx hk set_list ha) hs hw h1).imp fun D σ H q => setAt_ok q
end
end DL

/-! DL11: list comprehensions. -/
namespace DL
open PySem PySem.Spec PyProof.Rows L2

@[simp] def wipeE (env : En) : List Nat → En
  | [] => env
  | v :: vs => (wipeE env vs).set v none
theorem wipe_get (σ : L2.St) : ∀ (vs : List Nat) (j : Nat), (wipe σ vs)[j]? = if j ∈ vs ∧ j < σ.length then some none else σ[j]?
  | [], j => by simp [wipe]
  | v :: vs, j => by
    unfold wipe
    by_cases hv : v = j
    · subst hv
      by_cases hl : v < σ.length
      · rw [List.getElem?_set_self (by rw [wipe_length]; exact hl), if_pos ⟨List.mem_cons_self, hl⟩]
      · rw [if_neg (fun h => hl h.2), List.getElem?_eq_none (by simp [wipe_length]; omega), List.getElem?_eq_none (by omega)]
    · rw [List.getElem?_set_ne hv, wipe_get σ vs j]
      have : (j ∈ v :: vs) ↔ j ∈ vs := by simp [Ne.symm hv]
      simp [this]
theorem wipe_eq {σ σ2 : L2.St} {vs : List Nat} (hl : σ2.length = σ.length) (h : ∀ i, i < σ.length → i ∉ vs → σ2[i]? = σ[i]?) : wipe σ2 vs = wipe σ vs := by
  apply List.ext_getElem?
  intro j
  rw [wipe_get, wipe_get, hl]
  split
  · rfl
  · rename_i hn
    by_cases hj : j < σ.length
    · exact h j hj fun m => hn ⟨m, hj⟩
    · rw [List.getElem?_eq_none (by omega), List.getElem?_eq_none (by omega)]
theorem wipe_wipe (σ : L2.St) (vs : List Nat) : wipe (wipe σ vs) vs = wipe σ vs := by
  apply wipe_eq (by rw [wipe_length])
  intro i hi hn
  rw [wipe_get, if_neg (fun h => hn h.1)]
section
variable {K : PySem.W.Frag} {Z H : Hp}
theorem EnvR.drop1 {env : En} {σ : L2.St} {F : List Addr} (er : EnvR K Z H env σ F) : ∀ (i : Nat), ∃ F', F'.Sublist F ∧ EnvR K Z H (env.set i none) (σ.set i none) F' := by
  induction er with
  | nil => exact fun i => ⟨[], .refl _, .nil⟩
  | @cons e o F0 env σ G s r ih =>
    intro i
    cases i with
    | zero => exact ⟨G, List.sublist_append_right _ _, EnvR.cons (F := []) .no r⟩
    | succ i =>
      obtain ⟨F', h1, h2⟩ := ih i
      exact ⟨F0 ++ F', h1.append_left F0, .cons s h2⟩
theorem EnvR.wiped {env : En} {σ : L2.St} {F : List Addr} (er : EnvR K Z H env σ F) : ∀ (vs : List Nat), ∃ F', F'.Sublist F ∧ EnvR K Z H (wipeE env vs) (wipe σ vs) F'
  | [] => ⟨F, .refl _, er⟩
  | v :: vs => by
    obtain ⟨F1, h1, h2⟩ := EnvR.wiped er vs
    obtain ⟨F2, h3, h4⟩ := h2.drop1 v
    exact ⟨F2, h3.trans h1, h4⟩
theorem EnvR.other {env : En} {σ1 : L2.St} {F : List Addr} (er : EnvR K Z H env σ1 F) : ∀ {σ2 : L2.St}, σ2.length = σ1.length → (∀ i : Nat, env[i]? = some none ∨ σ2[i]? = σ1[i]?) → EnvR K Z H env σ2 F := by
  induction er with
  | nil =>
    intro σ2 hl _
    cases σ2 with
    | nil => exact .nil
    | cons _ _ => simp at hl
  | @cons e o F0 env σ G s r ih =>
    intro σ2 hl h
    cases σ2 with
    | nil => simp at hl
    | cons o2 σ2 =>
      refine .cons ?_ (ih (by simpa using hl) fun i => by simpa using h (i + 1))
      rcases h 0 with h | h
      · simp at h; subst h
        cases s; exact .no
      · simp at h; subst h; exact s
theorem wipeE_get (env : En) : ∀ (vs : List Nat) (j : Nat), j ∈ vs → j < env.length → (wipeE env vs)[j]? = some none
  | [], j, h, _ => by simp at h
  | v :: vs, j, h, hl => by
    have hlen : ∀ (vs : List Nat), (wipeE env vs).length = env.length := fun vs => by
      induction vs with
      | nil => rfl
      | cons v vs ih => simp [wipeE, ih]
    unfold wipeE
    by_cases hv : v = j
    · subst hv; rw [List.getElem?_set_self (by rw [hlen]; exact hl)]
    · rw [List.getElem?_set_ne hv]
      exact wipeE_get env vs j ((List.mem_cons.mp h).resolve_left (Ne.symm hv)) hl
theorem wipeE_length (env : En) (vs : List Nat) : (wipeE env vs).length = env.length := by
  induction vs with
  | nil => rfl
  | cons v vs ih => simp [wipeE, ih]
theorem EnvR.unwipe {env : En} {σ : L2.St} {vs : List Nat} {F : List Addr} (er : EnvR K Z H (wipeE env vs) (wipe σ vs) F) : EnvR K Z H (wipeE env vs) σ F := by
  refine er.other (by rw [wipe_length]) fun i => ?_
  have hl := er.length
  rw [wipeE_length, wipe_length] at hl
  by_cases hi : i ∈ vs ∧ i < σ.length
  · exact .inl (wipeE_get env vs i hi.1 (by omega))
  · exact .inr (by rw [wipe_get, if_neg hi])
/-- an owned list is written in place -/
theorem upd_in {F : List Addr} {a : Addr} {ws ws' : List V} (ok : Ok Z H F) (ha : a ∈ F) (h : H a = some (.lst ws)) :
    Ok Z (upd H a (.lst ws')) F ∧ Ext Z H F Z (upd H a (.lst ws')) F ∧ (∀ b xs, Rd H b (.tup xs) → Rd (upd H a (.lst ws')) b (.tup xs)) := by
  refine ⟨⟨fun b o q => ?_, ok.nod, ok.dis, fun b hb => ?_⟩, ⟨fun _ _ h => h, fun b o q n => ?_, fun b h => .inl h, fun _ _ h => .inl h⟩, fun b xs q => ?_⟩
  · have : b ≠ a := fun e => by subst e; rw [ok.dis b ha] at q; cases q
    rw [upd_ne this]; exact ok.sub b o q
  · by_cases e : b = a
    · subst e; rw [upd_same]; trivial
    · rw [upd_ne e]; exact ok.mu b hb
  · have : b ≠ a := fun e => n (by rw [e]; exact ha)
    rw [upd_ne this]; exact q
  · have : b ≠ a := fun e => by
      subst e
      rcases q with q | ⟨o, q⟩ <;> rw [h] at q <;> cases q
    rcases q with q | ⟨o, q⟩
    · exact .inl (by rw [upd_ne this]; exact q)
    · exact .inr ⟨o, by rw [upd_ne this]; exact q⟩
end
abbrev W0 : WX := fun _ _ _ _ => False
/-- a comprehension's loop: slots own are its names -/
def compF (own : List Nat) (s : GM) (fc : EM Bool) (fe : EM Opd) : List D → En → List T → Option (List T × En)
  | [], env, acc => some (acc, env)
  | d :: ds, env, acc => match s (.z d) env with
    | none => none
    | some e1 => match fc e1 with
      | some (.ok true e2) => match fe e2 with
        | some (.ok o e3) => match o.take e3 with
          | some (t, e4) => if acc.length < sizeLine then compF own s fc fe ds (wipeE e4 own) (acc ++ [t]) else none
          | none => none
        | _ => none
      | some (.ok false e2) => compF own s fc fe ds (wipeE e2 own) acc
      | _ => none
section
variable {K : PySem.W.Frag} {σ : L2.St} {Z H : Hp} {F : List Addr} {own : List Nat} {s : GM} {fc : EM Bool} {fe : EM Opd} {ds : List D} {vs : List V} {ts : List T} {e2 : En} {L : Addr} {P' : List Nat} {pc pe : Bool}
/-- what holds ahead of turn k -/
def CInv (K : PySem.W.Frag) (σ : L2.St) (Z H : Hp) (F : List Addr) (own : List Nat) (s : GM) (fc : EM Bool) (fe : EM Opd) (ds : List D) (ts : List T) (e2 : En) (L : Addr) (k : Nat) (H' : Hp) : Prop :=
  ∃ Z' env' F' Gd acc ws, Ok Z' H' (F' ++ (L :: Gd)) ∧ EnvR K Z' H' (wipeE env' own) (wipe σ own) F' ∧ H' L = some (.lst ws) ∧ RepTs K Z' H' acc ws Gd ∧ Ext Z H F Z' H' (F' ++ (L :: Gd)) ∧
    compF own s fc fe (ds.drop k) (wipeE env' own) acc = some (ts, e2)
theorem comp_turn (hP : ∀ i, i < σ.length → i ∉ own → i ∈ P') {k : Nat} {x : V} (hx : vs[k]? = some x) (okF : Ok Z H F) (rs : Reps K Z H ds vs) {H1 : Hp} (h : CInv K σ Z H F own s fc fe ds ts e2 L k H1) :
    tG K P' s x (wipe σ own) H1 fun σ2 H2 => wipe σ2 own = wipe σ own ∧ tTQ K W0 pc fc σ2 H2 fun b H3 =>
      if b = true then tQ K W0 pe fe σ2 H3 fun y H4 => ∃ acc, H4 L = some (.lst acc) ∧ acc.length < sizeLine ∧ CInv K σ Z H F own s fc fe ds ts e2 L (k + 1) (upd H4 L (.lst (acc ++ [y])))
      else CInv K σ Z H F own s fc fe ds ts e2 L (k + 1) H3 := by
  obtain ⟨Z1, env1, F1, Gd, acc, ws, ok1, er1, hL, ra, x1, e⟩ := h
  have hk : k < ds.length := by
    rw [rs.length]
    exact (List.getElem?_eq_some_iff.mp hx).1
  obtain ⟨v, hv, rd⟩ := rs.get (i := k) (d := ds[k]) (by simp [hk])
  rw [hx] at hv
  have hv' := Option.some.inj hv
  subst hv'
  rw [List.drop_eq_getElem_cons hk] at e
  unfold compF at e
  split at e
  · cases e
  · rename_i e1 he1
    refine ⟨Z1, _, F1, .z ds[k], [], by simpa using ok1.left, er1, .z (rd.mono x1.zz (x1.tt okF)), e1, he1, fun σ2 F2 x2 ok2 er2 pn2 => ?_⟩
    simp only [List.append_nil] at x2
    have hw : wipe σ2 own = wipe σ own := by
      have hl2 : σ2.length = (wipe σ own).length := pn2.1
      have : wipe σ2 own = wipe (wipe σ own) own := wipe_eq hl2 fun i hi hn => pn2.2 i (hP i (by rw [wipe_length] at hi; exact hi) hn)
      rw [this, wipe_wipe]
    refine ⟨hw, ?_⟩
    have okb2 : Ok Z1 H1 (F2 ++ (L :: Gd)) := Ok.beside x2 ok2 ok1
    have x12 : Ext Z H F Z1 H1 (F2 ++ (L :: Gd)) := x1.trans (x2.wide (G := L :: Gd))
    have go : ∀ {r : Res Bool}, fc e1 = some r → (∀ b e3, r = .ok b e3 → ∀ H3 Z3 F3, Ext Z1 H1 F2 Z3 H3 F3 → Ok Z3 H3 F3 → EnvR K Z3 H3 e3 σ2 F3 → (if b = true then tQ K W0 pe fe σ2 H3 fun y H4 => ∃ acc, H4 L = some (.lst acc) ∧ acc.length < sizeLine ∧ CInv K σ Z H F own s fc fe ds ts e2 L (k + 1) (upd H4 L (.lst (acc ++ [y])))
      else CInv K σ Z H F own s fc fe ds ts e2 L (k + 1) H3)) → (∀ y e3, r ≠ .ex y e3) → tTQ K W0 pc fc σ2 H1 fun b H3 =>
      if b = true then tQ K W0 pe fe σ2 H3 fun y H4 => ∃ acc, H4 L = some (.lst acc) ∧ acc.length < sizeLine ∧ CInv K σ Z H F own s fc fe ds ts e2 L (k + 1) (upd H4 L (.lst (acc ++ [y])))
      else CInv K σ Z H F own s fc fe ds ts e2 L (k + 1) H3 := fun {r} hr h nx => by
      refine ⟨Z1, e1, F2, ok2, er2, r, hr, ?_⟩
      cases r with
      | ok b e3 => exact fun H3 Z3 F3 x3 ok3 er3 _ => h b e3 rfl H3 Z3 F3 x3 ok3 er3
      | ex y e3 => exact (nx y e3 rfl).elim
    split at e
    · rename_i e3 hc
      refine go hc (fun b e3' hb H3 Z3 F3 x3 ok3 er3 => ?_) (fun _ _ z => nomatch z)
      cases hb
      refine iteT ?_
      split at e
      · rename_i o e4 hfe
        split at e
        · rename_i t e5 ht
          split at e
          · rename_i hlt
            refine ⟨Z3, e3, F3, ok3, er3, _, hfe, fun y H4 Z4 F4 G4 x4 ok4 er4 or4 _ => ?_⟩
            obtain ⟨Z5, F5, G5, x5, ok5, er5, r5⟩ := take_ok ok4 er4 or4 ht
            have xx : Ext Z1 H1 F2 Z5 H4 (F5 ++ G5) := (x3.trans x4).trans x5
            have okb : Ok Z5 H4 ((F5 ++ G5) ++ (L :: Gd)) := Ok.beside xx ok5 okb2
            have nL : L ∉ F2 := fun m => (List.nodup_append.mp okb2.nod).2.2 L m L List.mem_cons_self rfl
            have hL4 : H4 L = some (.lst ws) := xx.hh L _ hL nL
            have okG : Ok Z1 H1 (F2 ++ Gd) := okb2.subF (List.Sublist.append_left (List.sublist_cons_self _ _) F2)
            have ra4 : RepTs K Z5 H4 acc ws Gd := ra.frame xx okG
            obtain ⟨F6, sl6, er6⟩ := er5.wiped own
            rw [hw] at er6
            have pm : ((F5 ++ G5) ++ (L :: Gd)).Perm (F5 ++ (L :: (Gd ++ G5))) := by
              rw [List.append_assoc]
              refine List.Perm.append_left F5 ?_
              have : (G5 ++ (L :: Gd)).Perm ((L :: Gd) ++ G5) := List.perm_append_comm
              simpa using this
            have okc : Ok Z5 H4 (F5 ++ (L :: (Gd ++ G5))) := okb.perm pm
            have slc : (F6 ++ (L :: (Gd ++ G5))).Sublist (F5 ++ (L :: (Gd ++ G5))) := sl6.append_right _
            have okd : Ok Z5 H4 (F6 ++ (L :: (Gd ++ G5))) := okc.subF slc
            obtain ⟨oke, xe, tte⟩ := upd_in (ws' := ws ++ [y]) okd (by simp) hL4
            have nLF : L ∉ F6 := fun m => (List.nodup_append.mp okd.nod).2.2 L m L List.mem_cons_self rfl
            have nLG : L ∉ Gd ++ G5 := (List.nodup_cons.mp (List.nodup_append.mp okd.nod).2.1).1
            refine ⟨ws, hL4, by rw [← ra4.length]; exact hlt, Z5, e5, F6, Gd ++ G5, acc ++ [t], ws ++ [y], oke, er6.keep (fun _ _ h => h) tte (fun b hb o q => ?_), upd_same, (ra4.snoc r5).keep (fun _ _ h => h) tte (fun b hb o q => ?_), ?_, e⟩
            · rw [upd_ne (fun z => nLF (by rw [← z]; exact hb))]; exact q
            · rw [upd_ne (fun z => nLG (by rw [← z]; exact hb))]; exact q
            · exact ((x12.trans (xx.wide (G := L :: Gd))).sub fun a ha => pm.mem_iff.mpr (slc.subset ha)).trans xe
          · cases e
        · cases e
      · cases e
    · rename_i e3 hc
      refine go hc (fun b e3' hb H3 Z3 F3 x3 ok3 er3 => ?_) (fun _ _ z => nomatch z)
      cases hb
      refine iteF ?_
      have okb : Ok Z3 H3 (F3 ++ (L :: Gd)) := Ok.beside x3 ok3 okb2
      have nL : L ∉ F2 := fun m => (List.nodup_append.mp okb2.nod).2.2 L m L List.mem_cons_self rfl
      have okG : Ok Z1 H1 (F2 ++ Gd) := okb2.subF (List.Sublist.append_left (List.sublist_cons_self _ _) F2)
      obtain ⟨F6, sl6, er6⟩ := er3.wiped own
      rw [hw] at er6
      have slc : (F6 ++ (L :: Gd)).Sublist (F3 ++ (L :: Gd)) := sl6.append_right _
      exact ⟨Z3, e3, F6, Gd, acc, ws, okb.subF slc, er6, x3.hh L _ hL nL, ra.frame x3 okG, (x12.trans (x3.wide (G := L :: Gd))).sub fun a ha => slc.subset ha, e⟩
    · cases e
/-- the new list laid -/
theorem comp_start {env : En} (okF : Ok Z H F) (er : EnvR K Z H env σ F) (hn : H L = none) (e : compF own s fc fe ds (wipeE env own) [] = some (ts, e2)) : CInv K σ Z H F own s fc fe ds ts e2 L 0 (upd H L (.lst [])) := by
  obtain ⟨F6, sl6, er6⟩ := er.wiped own
  have g := grow_upd (o := .lst []) hn
  have ok2 : Ok Z (upd H L (.lst [])) (F6 ++ [L]) := (okF.subF sl6).grown g (fresh1 hn) (by simp) fun a ha => by rw [List.mem_singleton.mp ha, upd_same]; trivial
  exact ⟨Z, env, F6, [], [], [], ok2, er6.grown g, upd_same, .nil, (Ext.subF fun a ha => sl6.subset ha).trans (Ext.grown g (fresh1 hn)), by simpa using e⟩
theorem comp_end {Q : VK} (h : CInv K σ Z H F own s fc fe ds ts e2 L ds.length H') (hq : ∀ Z' F' G, Ext Z H F Z' H' (F' ++ G) → Ok Z' H' (F' ++ G) → EnvR K Z' H' e2 σ F' → RepT K Z' H' (.lst ts) (.ref L) G → Q (.ref L) H') : Q (.ref L) H' := by
  obtain ⟨Z1, env1, F1, Gd, acc, ws, ok1, er1, hL, ra, x1, e⟩ := h
  rw [List.drop_length] at e
  cases e
  exact hq Z1 F1 (L :: Gd) x1 ok1 er1.unwipe (.lst hL ra)
end

/-! ### the sources -/
def sLc (own : List Nat) (fi : EM Opd) (s : GM) (fc : EM Bool) (fe : EM Opd) : EM Opd := fun env => match fi env with
  | some (.ok (.t u) e1) => match u.els with
    | some ds => match compF own s fc fe ds (wipeE e1 own) [] with
      | some (ts, e2) => some (.ok (.t (.lst ts)) e2)
      | none => none
    | none => none
  | _ => none
def sLcN (own : List Nat) (i : Nat) (s : GM) (fc : EM Bool) (fe : EM Opd) : EM Opd := fun env => match env[i]? with
  | some (some (.z d)) => match (T.z d).els with
    | some ds => match compF own s fc fe ds (wipeE env own) [] with
      | some (ts, e2) => some (.ok (.t (.lst ts)) e2)
      | none => none
    | none => none
  | some (some u) => match u.els with
    | some ds => match compF own s fc fe ds (wipeE (env.set i none) own) [] with
      | some (ts, e2) => if i < e2.length then some (.ok (.t (.lst ts)) (e2.set i (some u))) else none
      | none => none
    | none => none
  | _ => none
def sLcR (own : List Nat) (gr : List D → Option (Int × Nat)) (fr : EM (List Opd)) (s : GM) (fc : EM Bool) (fe : EM Opd) : EM Opd := fun env => match fr env with
  | some (.ok os e1) => match rds e1 os with
    | some ds => match gr ds with
      | some (lo, n) => match compF own s fc fe (rngD lo n) (wipeE e1 own) [] with
        | some (ts, e2) => some (.ok (.t (.lst ts)) e2)
        | none => none
      | none => none
    | none => none
  | _ => none
section
variable {K : PySem.W.Frag} {W : WX} {σ : L2.St} {H : Hp} {own : List Nat} {s : GM} {fc : EM Bool} {fe : EM Opd} {P' : List Nat} {pc pe : Bool} {Q : VK}
/-- the walk over a T's items -/
theorem lc_run (hP : ∀ i, i < σ.length → i ∉ own → i ∈ P') {Z : Hp} {F G : List Addr} {env : En} {u : T} {v : V} {ds : List D} {ts : List T} {e2 : En} (ok : Ok Z H (F ++ G)) (er : EnvR K Z H env σ F) (r : RepT K Z H u v G) (e : u.els = some ds) (ec : compF own s fc fe ds (wipeE env own) [] = some (ts, e2))
    (hq : ∀ L H' Z' F' G', Ext Z H F Z' H' (F' ++ G') → Ok Z' H' (F' ++ G') → EnvR K Z' H' e2 σ F' → RepT K Z' H' (.lst ts) (.ref L) G' → Q (.ref L) H') :
    ∃ a, v = .ref a ∧ (((∃ xs, SqL K H a xs) ∧ ∀ D, H D = none → ∃ W' : Nat → Nat → Hp → Prop, (∃ m, W' 0 m (upd H D (.lst []))) ∧ ∀ i m H, W' i m H →
      ((Itl K a).stop i H ∧ Q (.ref D) H) ∨ ((Itl K a).go i H ∧ ∃ Nx : Hp → Prop, (∀ H', Nx H' → ∃ m', m' < m ∧ W' (i + 1) m' H') ∧ ∀ x H', (Itl K a).yld i H x H' → tG K P' s x (wipe σ own) H' fun σ2 H2 => wipe σ2 own = wipe σ own ∧ tTQ K W0 pc fc σ2 H2 fun b H3 =>
        if b = true then tQ K W0 pe fe σ2 H3 fun y H4 => ∃ acc, H4 D = some (.lst acc) ∧ acc.length < sizeLine ∧ Nx (upd H4 D (.lst (acc ++ [y]))) else Nx H3)) ∨
     ((∃ xs, SqT K H a xs) ∧ ∀ D, H D = none → ∃ W' : Nat → Nat → Hp → Prop, (∃ m, W' 0 m (upd H D (.lst []))) ∧ ∀ i m H, W' i m H →
      ((Itt K a).stop i H ∧ Q (.ref D) H) ∨ ((Itt K a).go i H ∧ ∃ Nx : Hp → Prop, (∀ H', Nx H' → ∃ m', m' < m ∧ W' (i + 1) m' H') ∧ ∀ x H', (Itt K a).yld i H x H' → tG K P' s x (wipe σ own) H' fun σ2 H2 => wipe σ2 own = wipe σ own ∧ tTQ K W0 pc fc σ2 H2 fun b H3 =>
        if b = true then tQ K W0 pe fe σ2 H3 fun y H4 => ∃ acc, H4 D = some (.lst acc) ∧ acc.length < sizeLine ∧ Nx (upd H4 D (.lst (acc ++ [y]))) else Nx H3))) := by
  obtain ⟨a, vs, rfl, rs, st⟩ := els_stay (F := F) r ok e
  refine ⟨a, rfl, ?_⟩
  -- what is owned beside stays through the loop
  have seqK : ∀ {L : Addr} {k : Nat} {H' : Hp}, CInv K σ Z H F own s fc fe ds ts e2 L k H' → ∃ Z' F', Ext Z H F Z' H' F' ∧ Ok Z' H' F' := fun ⟨Z', env', F', Gd, acc, ws, a, _, _, _, b, _⟩ => ⟨Z', _, b, a⟩
  rcases st with st | st
  · refine .inl ⟨⟨vs, st Z H F Ext.refl ok.left⟩, fun L hn => ?_⟩
    refine lc_list (K := K) (a := a) (xs := vs) (CInv K σ Z H F own s fc fe ds ts e2 L) (comp_start ok.left er hn ec) (fun i H' _ h => ?_) (fun i x H' hx h => comp_turn hP hx ok.left rs h) fun H' h => ?_
    · obtain ⟨Z', F', x, o⟩ := seqK h
      exact st Z' H' F' x o
    · rw [← rs.length] at h
      exact comp_end (Q := Q) h fun Z' F' G' a b c d => hq L H' Z' F' G' a b c d
  · refine .inr ⟨⟨vs, st Z H F Ext.refl⟩, fun L hn => ?_⟩
    refine lc_tup (K := K) (a := a) (xs := vs) (CInv K σ Z H F own s fc fe ds ts e2 L) (comp_start ok.left er hn ec) (fun i H' _ h => ?_) (fun i x H' hx h => comp_turn hP hx ok.left rs h) fun H' h => ?_
    · obtain ⟨Z', F', x, o⟩ := seqK h
      exact st Z' H' F' x
    · rw [← rs.length] at h
      exact comp_end (Q := Q) h fun Z' F' G' a b c d => hq L H' Z' F' G' a b c d
theorem lcE_ok (hP : ∀ i, i < σ.length → i ∉ own → i ∈ P') {fi : EM Opd} (q : tQ K W false (sLc own fi s fc fe) σ H Q) : tLc (iAny K (tQ K W false fi)) (tG K P' s) (tTQ K W0 pc fc) (tQ K W0 pe fe) own σ H Q := by
  obtain ⟨Z, env, F, ok, er, r, hr, post⟩ := q
  unfold sLc at hr
  split at hr
  · rename_i u e1 hf
    split at hr
    · rename_i ds hd
      split at hr
      · rename_i ts e2 hc
        cases hr
        refine ⟨Z, env, F, ok, er, _, hf, fun v H1 Z1 F1 G1 x1 ok1 er1 or1 _ => ?_⟩
        cases or1 with
        | t r1 =>
          refine lc_run hP ok1 er1 r1 hd hc fun L H' Z' F' G' x2 ok2 er2 r2 => ?_
          exact post (.ref L) H' Z' F' G' ((x1.sub fun a ha => List.mem_append_left _ ha).trans x2) ok2 er2 (.t r2) fun z => nomatch z
      · cases hr
    · cases hr
  · cases hr
theorem lcN_ok (hP : ∀ i, i < σ.length → i ∉ own → i ∈ P') {i : Nat} (q : tQ K W false (sLcN own i s fc fe) σ H Q) : tLc (iAny K (tVar i)) (tG K P' s) (tTQ K W0 pc fc) (tQ K W0 pe fe) own σ H Q := by
  obtain ⟨Z, env, F, ok, er, r, hr, post⟩ := q
  unfold sLcN at hr
  split at hr
  · rename_i d he
    split at hr
    · rename_i ds hd
      split at hr
      · rename_i ts e2 hc
        cases hr
        obtain ⟨v, Fi, h1, h2, _⟩ := er.at he
        cases h2 with
        | z h2 =>
          refine ⟨v, h1, lc_run (G := []) hP (by simpa using ok) er (.z h2) hd hc fun L H' Z' F' G' x2 ok2 er2 r2 => ?_⟩
          exact post (.ref L) H' Z' F' G' x2 ok2 er2 (.t r2) fun z => nomatch z
      · cases hr
    · cases hr
  · rename_i u _ he
    split at hr
    · rename_i ds hd
      split at hr
      · rename_i ts e2 hc
        split at hr
        · rename_i hi
          cases hr
          obtain ⟨A, Fi, B, o', e1, e2', e3, e4⟩ := er.lens he
          cases e3 with
          | @so _ v _ r =>
            have er0 := e4 Z H (fun _ _ z => z) (fun _ _ z => z) (fun _ _ _ z => z) none (some v) [] .no
            rw [set_same e2'] at er0
            simp only [List.append_nil] at er0
            subst e1
            have pm : (A ++ Fi ++ B).Perm ((A ++ B) ++ Fi) := by
              simp only [List.append_assoc]
              exact List.Perm.append_left A List.perm_append_comm
            have ok0 : Ok Z H ((A ++ B) ++ Fi) := ok.perm pm
            refine ⟨v, e2', lc_run hP ok0 er0 r hd hc fun L H' Z' F' G' x2 ok2 er2 r2 => ?_⟩
            have okb : Ok Z' H' ((F' ++ G') ++ Fi) := Ok.beside x2 ok2 ok0
            have rr := r.frame x2 ok0
            have pm2 : ((F' ++ G') ++ Fi).Perm ((F' ++ Fi) ++ G') := by
              simp only [List.append_assoc]
              exact List.Perm.append_left F' List.perm_append_comm
            have okc := okb.perm pm2
            obtain ⟨F4, x4, ok4, er4⟩ := er2.put okc.left rr hi
            rw [set_same e2'] at er4
            have okd := Ok.beside x4 ok4 okc
            refine post (.ref L) H' Z' F4 G' ?_ okd er4 (.t r2) fun z => nomatch z
            have xa : Ext Z H (A ++ Fi ++ B) Z H ((A ++ B) ++ Fi) := Ext.subF fun a ha => pm.mem_iff.mpr ha
            exact ((xa.trans (x2.wide (G := Fi))).sub fun a ha => pm2.mem_iff.mpr ha).trans (x4.wide (G := G'))
        · cases hr
      · cases hr
    · cases hr
  · cases hr
theorem lcRng (hP : ∀ i, i < σ.length → i ∉ own → i ∈ P') {Z : Hp} {F : List Addr} {env : En} {lo : Int} {n : Nat} {ts : List T} {e2 : En} (ok : Ok Z H F) (er : EnvR K Z H env σ F) (ec : compF own s fc fe (rngD lo n) (wipeE env own) [] = some (ts, e2))
    (hq : ∀ L H' Z' F' G', Ext Z H F Z' H' (F' ++ G') → Ok Z' H' (F' ++ G') → EnvR K Z' H' e2 σ F' → RepT K Z' H' (.lst ts) (.ref L) G' → Q (.ref L) H') :
    ∀ D, H D = none → ∃ W' : Nat → Nat → Hp → Prop, (∃ m, W' 0 m (upd H D (.lst []))) ∧ ∀ i m H, W' i m H →
      ((Itr lo n).stop i H ∧ Q (.ref D) H) ∨ ((Itr lo n).go i H ∧ ∃ Nx : Hp → Prop, (∀ H', Nx H' → ∃ m', m' < m ∧ W' (i + 1) m' H') ∧ ∀ x H', (Itr lo n).yld i H x H' → tG K P' s x (wipe σ own) H' fun σ2 H2 => wipe σ2 own = wipe σ own ∧ tTQ K W0 pc fc σ2 H2 fun b H3 =>
        if b = true then tQ K W0 pe fe σ2 H3 fun y H4 => ∃ acc, H4 D = some (.lst acc) ∧ acc.length < sizeLine ∧ Nx (upd H4 D (.lst (acc ++ [y]))) else Nx H3) := by
  intro L hn
  have rs : Reps K Z H (rngD lo n) ((List.range n).map fun i : Nat => V.int (lo + (i : Int))) := by
    have : ∀ (n : Nat) (lo : Int), Reps K Z H (rngD lo n) ((List.range n).map fun i : Nat => V.int (lo + (i : Int))) := by
      intro n
      induction n with
      | zero => intro lo; exact .nil
      | succ n ih =>
        intro lo
        rw [List.range_succ_eq_map, List.map_cons, List.map_map]
        refine .cons (by simpa using Rep.int) ?_
        have z := ih (lo + 1)
        have e : (List.map (fun i : Nat => V.int (lo + 1 + (i : Int))) (List.range n)) = List.map ((fun i : Nat => V.int (lo + (i : Int))) ∘ Nat.succ) (List.range n) := by
          apply List.map_congr_left
          intro i _
          simp only [Function.comp]
          congr 1
          push_cast
          omega
        rw [← e]; exact z
    exact this n lo
  refine lc_range (lo := lo) (n := n) (CInv K σ Z H F own s fc fe (rngD lo n) ts e2 L) (comp_start ok er hn ec) (fun i H' hi h => comp_turn hP (by simp [hi]) ok rs h) fun H' h => ?_
  have hl : (rngD lo n).length = n := rngD_length lo n
  have h2 : CInv K σ Z H F own s fc fe (rngD lo n) ts e2 L (rngD lo n).length H' := by rw [hl]; exact h
  exact comp_end (Q := Q) h2 fun Z' F' G' a b c d => hq L H' Z' F' G' a b c d
theorem lcR1_ok (hP : ∀ i, i < σ.length → i ∉ own → i ∈ P') {fr : EM (List Opd)} (q : tQ K W false (sLcR own gRng1 fr s fc fe) σ H Q) : tLc (iRng1 (tAQ K W false fr)) (tG K P' s) (tTQ K W0 pc fc) (tQ K W0 pe fe) own σ H Q := by
  obtain ⟨Z, env, F, ok, er, r, hr, post⟩ := q
  unfold sLcR at hr
  split at hr
  · rename_i os e1 hf
    split at hr
    · rename_i ds hd
      split at hr
      · rename_i lo n hg
        split at hr
        · rename_i ts e2 hc
          cases hr
          refine ⟨Z, env, F, ok, er, _, hf, fun vs H1 Z1 F1 G1 x1 ok1 er1 or1 _ => ?_⟩
          have rd := or1.look ok1.sub er1 hd
          unfold gRng1 at hg
          split at hg
          · split at hg
            · rename_i hj
              cases hg
              obtain ⟨x, rfl, r1⟩ := rd.one
              have := r1.v_int; subst this
              have hj := inB_iff.mp hj
              refine ⟨_, rfl, hj.1, hj.2, lcRng hP ok1.left er1 hc fun L H' Z' F' G' x2 ok2 er2 r2 => ?_⟩
              exact post (.ref L) H' Z' F' G' ((x1.sub fun a ha => List.mem_append_left _ ha).trans x2) ok2 er2 (.t r2) fun z => nomatch z
            · cases hg
          · cases hg
        · cases hr
      · cases hr
    · cases hr
  · cases hr
theorem lcR2_ok (hP : ∀ i, i < σ.length → i ∉ own → i ∈ P') {fr : EM (List Opd)} (q : tQ K W false (sLcR own gRng2 fr s fc fe) σ H Q) : tLc (iRng2 (tAQ K W false fr)) (tG K P' s) (tTQ K W0 pc fc) (tQ K W0 pe fe) own σ H Q := by
  obtain ⟨Z, env, F, ok, er, r, hr, post⟩ := q
  unfold sLcR at hr
  split at hr
  · rename_i os e1 hf
    split at hr
    · rename_i ds hd
      split at hr
      · rename_i lo n hg
        split at hr
        · rename_i ts e2 hc
          cases hr
          refine ⟨Z, env, F, ok, er, _, hf, fun vs H1 Z1 F1 G1 x1 ok1 er1 or1 _ => ?_⟩
          have rd := or1.look ok1.sub er1 hd
          unfold gRng2 at hg
          split at hg
          · split at hg
            · rename_i hj
              cases hg
              obtain ⟨x, y, rfl, r1, r2⟩ := rd.two
              have h1 := r1.v_int
              have h2 := r2.v_int
              subst h1 h2
              have hj1 := inB_iff.mp hj.1
              have hj2 := inB_iff.mp hj.2
              refine ⟨_, _, rfl, ⟨hj1.1, hj1.2, hj2.1, hj2.2⟩, lcRng hP ok1.left er1 hc fun L H' Z' F' G' x2 ok2 er2 r2 => ?_⟩
              exact post (.ref L) H' Z' F' G' ((x1.sub fun a ha => List.mem_append_left _ ha).trans x2) ok2 er2 (.t r2) fun z => nomatch z
            · cases hg
          · cases hg
        · cases hr
      · cases hr
    · cases hr
  · cases hr
end

theorem _root_.L2.PE.impI {X : Cx} {e : Expr} {t t' : TE} (h : PE X e t) (i : ∀ σ H Q, σ.length = X.N.length → t' σ H Q → t σ H Q) : PE X e t' := ⟨fun pins s σ H Q I q => h.run pins s σ H Q I (i σ H Q I.len q)⟩
theorem _root_.L2.PS.impI {X : Cx} {e : Stmt} {t t' : TS} (h : PS X e t) (i : ∀ D σ H, σ.length = X.N.length → t' D σ H → t D σ H) : PS X e t' := ⟨fun pins s σ H Q I q => h.run pins s σ H Q I (i Q σ H I.len q)⟩
def sYes : EM Bool := fun env => some (.ok true env)
/-- a clause's tests -/
abbrev PTsQ (X : Cx) (p : Bool) (ifs : List Expr) (f : EM Bool) : Prop := PTs X ifs (tTQ X.K W0 p f)
theorem ptsq_nil {X : Cx} {p : Bool} : PTsQ X p [] sYes := by
  refine ⟨fun pins s σ H Q I h => (pts_nil (X := X)).run pins s σ H Q I ?_⟩
  obtain ⟨Z, env, F, ok, er, r, hr, post⟩ := h
  cases hr
  exact post H Z F Ext.refl ok er fun _ => ⟨rfl, rfl, rfl, fun _ _ z => z⟩
theorem ptsq_one {X : Cx} {p : Bool} {c : Expr} {f : EM Bool} (h : PTQ X W0 p c f) : PTsQ X p [c] f := pts_one h
/-- the context of a comprehension's block -/
abbrev Blk (X : Cx) (scope : Scope) (Pr : Cx → Prop) : Prop := ∀ (s : Shared) (H : Hp) (C : Addr) (cl : List (Str × Addr)) (fp : List Addr), Pr (X.blk s H scope (compEnvC scope cl C X.env) fp)
section
variable {X : Cx} {W : WX} {P P' : List Nat} {elt tg iter e1 e2 : Expr} {ifs : List Expr} {scope : Scope} {own : List (Str × Nat)} {pos p1 pn : Pos} {s : GM} {fc : EM Bool} {fe fi : EM Opd} {fr : EM (List Opd)} {pc pe pi' : Bool} {x : Str} {i : Nat}
theorem pq_lcE (hc : X.calm = true) (hN : X.N.Nodup) (hi : PQ X W pi' iter fi) (ok : BlkOk X.N X.env.scope scope own) {m : Nat} (hP : ∀ i, i < m → i ∉ own.map (·.2) → i ∈ P')
    (hg : Blk X scope fun X' => PGQ X' P' tg s) (ht : Blk X scope fun X' => PTsQ X' pc ifs fc) (he : Blk X scope fun X' => PQ X' W0 pe elt fe) (hs : ∀ x, foldedSetIterable iter X.env x = pure x := by intro _; rfl) (hm' : X.N.length = m := by rfl) :
    PQ X W false (.ListComp elt [⟨tg, iter, ifs, 0⟩] scope pos) (sLc (own.map (·.2)) fi s fc fe) :=
  (pe_lc hc hN (pi_any (hi.imp fun _ _ _ z => tQ_any z : PQ X W false iter fi)) ok hg ht he hs).impI fun σ H Q hl q => lcE_ok (fun i hi hn => hP i (by rw [← hm', ← hl]; exact hi) hn) q
theorem pq_lcN (hc : X.calm = true) (hN : X.N.Nodup) (hi : PE X (.Name x p1) (tVar i)) (ok : BlkOk X.N X.env.scope scope own) {m : Nat} (hP : ∀ i, i < m → i ∉ own.map (·.2) → i ∈ P')
    (hg : Blk X scope fun X' => PGQ X' P' tg s) (ht : Blk X scope fun X' => PTsQ X' pc ifs fc) (he : Blk X scope fun X' => PQ X' W0 pe elt fe) (hm' : X.N.length = m := by rfl) :
    PQ X W false (.ListComp elt [⟨tg, .Name x p1, ifs, 0⟩] scope pos) (sLcN (own.map (·.2)) i s fc fe) :=
  (pe_lc hc hN (pi_any hi) ok hg ht he (by intro _; rfl)).impI fun σ H Q hl q => lcN_ok (fun i hi hn => hP i (by rw [← hm', ← hl]; exact hi) hn) q
theorem pq_lcR1 (hc : X.calm = true) (hN : X.N.Nodup) (hr : Gl X "range") (hm : X.mg "range" = none) (ha : PAQ X W pi' [e1] fr) (ok : BlkOk X.N X.env.scope scope own) {m : Nat} (hP : ∀ i, i < m → i ∉ own.map (·.2) → i ∈ P')
    (hg : Blk X scope fun X' => PGQ X' P' tg s) (ht : Blk X scope fun X' => PTsQ X' pc ifs fc) (he : Blk X scope fun X' => PQ X' W0 pe elt fe) (hs : starEach [e1] X.env = [(false, eval e1 X.env)] := by rfl) (hm' : X.N.length = m := by rfl) :
    PQ X W false (.ListComp elt [⟨tg, .Call (.Name "range" p1) [e1] [] pn, ifs, 0⟩] scope pos) (sLcR (own.map (·.2)) gRng1 fr s fc fe) :=
  (pe_lc hc hN (pi_range1 hr hm (ha.imp fun _ _ _ z => tAQ_any z : PAQ X W false [e1] fr) hs) ok hg ht he (by intro _; rfl)).impI fun σ H Q hl q => lcR1_ok (fun i hi hn => hP i (by rw [← hm', ← hl]; exact hi) hn) q
theorem pq_lcR2 (hc : X.calm = true) (hN : X.N.Nodup) (hr : Gl X "range") (hm : X.mg "range" = none) (ha : PAQ X W pi' [e1, e2] fr) (ok : BlkOk X.N X.env.scope scope own) {m : Nat} (hP : ∀ i, i < m → i ∉ own.map (·.2) → i ∈ P')
    (hg : Blk X scope fun X' => PGQ X' P' tg s) (ht : Blk X scope fun X' => PTsQ X' pc ifs fc) (he : Blk X scope fun X' => PQ X' W0 pe elt fe) (hs : starEach [e1, e2] X.env = [(false, eval e1 X.env), (false, eval e2 X.env)] := by rfl) (hs2 : starEach [e2] X.env = [(false, eval e2 X.env)] := by rfl) (hm' : X.N.length = m := by rfl) :
    PQ X W false (.ListComp elt [⟨tg, .Call (.Name "range" p1) [e1, e2] [] pn, ifs, 0⟩] scope pos) (sLcR (own.map (·.2)) gRng2 fr s fc fe) :=
  (pe_lc hc hN (pi_range2 hr hm (ha.imp fun _ _ _ z => tAQ_any z : PAQ X W false [e1, e2] fr) hs hs2) ok hg ht he (by intro _; rfl)).impI fun σ H Q hl q => lcR2_ok (fun i hi hn => hP i (by rw [← hm', ← hl]; exact hi) hn) q
/-! ### name = [..] on one line: the store is within the comprehension -/
def sSetLc (i : Nat) (f : EM Opd) : SM := sSet i f
theorem psq_setLcE {y : Str} {py spos : Pos} (hc : X.calm = true) (hN : X.N.Nodup) (hy : X.N[i]? = some y) (hyl : X.env.scope.names.lookup y = some .local) (hsw : swapsWith (.ListComp elt [⟨tg, iter, ifs, 0⟩] scope pos) (some (.Name y py)) spos.line X.env = pure true) (hi : PQ X W pi' iter fi) (ok : BlkOk X.N X.env.scope scope own) {m : Nat} (hP : ∀ i, i < m → i ∉ own.map (·.2) → i ∈ P')
    (hg : Blk X scope fun X' => PGQ X' P' tg s) (ht : Blk X scope fun X' => PTsQ X' pc ifs fc) (he : Blk X scope fun X' => PQ X' W0 pe elt fe) (hiP : i ∉ P := by decide) (hs : ∀ x, foldedSetIterable iter X.env x = pure x := by intro _; rfl) (hm' : X.N.length = m := by rfl) :
    PSQ X W P (.Assign [.Name y py] (.ListComp elt [⟨tg, iter, ifs, 0⟩] scope pos) spos) (sSet i (sLc (own.map (·.2)) fi s fc fe)) :=
  (ps_setLc hc hN hy hyl hsw (pi_any (hi.imp fun _ _ _ z => tQ_any z : PQ X W false iter fi)) ok hg ht he hs).impI fun D σ H hl q => lcE_ok (fun i hi hn => hP i (by rw [← hm', ← hl]; exact hi) hn) (asg_ok hiP q)
theorem psq_setLcN {y : Str} {py spos : Pos} {j : Nat} (hc : X.calm = true) (hN : X.N.Nodup) (hy : X.N[i]? = some y) (hyl : X.env.scope.names.lookup y = some .local) (hsw : swapsWith (.ListComp elt [⟨tg, .Name x p1, ifs, 0⟩] scope pos) (some (.Name y py)) spos.line X.env = pure true) (hi : PE X (.Name x p1) (tVar j)) (ok : BlkOk X.N X.env.scope scope own) {m : Nat} (hP : ∀ i, i < m → i ∉ own.map (·.2) → i ∈ P')
    (hg : Blk X scope fun X' => PGQ X' P' tg s) (ht : Blk X scope fun X' => PTsQ X' pc ifs fc) (he : Blk X scope fun X' => PQ X' W0 pe elt fe) (hiP : i ∉ P := by decide) (hm' : X.N.length = m := by rfl) :
    PSQ X W P (.Assign [.Name y py] (.ListComp elt [⟨tg, .Name x p1, ifs, 0⟩] scope pos) spos) (sSet i (sLcN (own.map (·.2)) j s fc fe)) :=
  (ps_setLc hc hN hy hyl hsw (pi_any hi) ok hg ht he (by intro _; rfl)).impI fun D σ H hl q => lcN_ok (fun i hi hn => hP i (by rw [← hm', ← hl]; exact hi) hn) (asg_ok hiP q)
theorem psq_setLcR1 {y : Str} {py spos : Pos} (hc : X.calm = true) (hN : X.N.Nodup) (hy : X.N[i]? = some y) (hyl : X.env.scope.names.lookup y = some .local) (hsw : swapsWith (.ListComp elt [⟨tg, .Call (.Name "range" p1) [e1] [] pn, ifs, 0⟩] scope pos) (some (.Name y py)) spos.line X.env = pure true) (hr : Gl X "range") (hm : X.mg "range" = none) (ha : PAQ X W pi' [e1] fr) (ok : BlkOk X.N X.env.scope scope own) {m : Nat} (hP : ∀ i, i < m → i ∉ own.map (·.2) → i ∈ P')
    (hg : Blk X scope fun X' => PGQ X' P' tg s) (ht : Blk X scope fun X' => PTsQ X' pc ifs fc) (he : Blk X scope fun X' => PQ X' W0 pe elt fe) (hiP : i ∉ P := by decide) (hs : starEach [e1] X.env = [(false, eval e1 X.env)] := by rfl) (hm' : X.N.length = m := by rfl) :
    PSQ X W P (.Assign [.Name y py] (.ListComp elt [⟨tg, .Call (.Name "range" p1) [e1] [] pn, ifs, 0⟩] scope pos) spos) (sSet i (sLcR (own.map (·.2)) gRng1 fr s fc fe)) :=
  (ps_setLc hc hN hy hyl hsw (pi_range1 hr hm (ha.imp fun _ _ _ z => tAQ_any z : PAQ X W false [e1] fr) hs) ok hg ht he (by intro _; rfl)).impI fun D σ H hl q => lcR1_ok (fun i hi hn => hP i (by rw [← hm', ← hl]; exact hi) hn) (asg_ok hiP q)
theorem psq_setLcR2 {y : Str} {py spos : Pos} (hc : X.calm = true) (hN : X.N.Nodup) (hy : X.N[i]? = some y) (hyl : X.env.scope.names.lookup y = some .local) (hsw : swapsWith (.ListComp elt [⟨tg, .Call (.Name "range" p1) [e1, e2] [] pn, ifs, 0⟩] scope pos) (some (.Name y py)) spos.line X.env = pure true) (hr : Gl X "range") (hm : X.mg "range" = none) (ha : PAQ X W pi' [e1, e2] fr) (ok : BlkOk X.N X.env.scope scope own) {m : Nat} (hP : ∀ i, i < m → i ∉ own.map (·.2) → i ∈ P')
    (hg : Blk X scope fun X' => PGQ X' P' tg s) (ht : Blk X scope fun X' => PTsQ X' pc ifs fc) (he : Blk X scope fun X' => PQ X' W0 pe elt fe) (hiP : i ∉ P := by decide) (hs : starEach [e1, e2] X.env = [(false, eval e1 X.env), (false, eval e2 X.env)] := by rfl) (hs2 : starEach [e2] X.env = [(false, eval e2 X.env)] := by rfl) (hm' : X.N.length = m := by rfl) :
    PSQ X W P (.Assign [.Name y py] (.ListComp elt [⟨tg, .Call (.Name "range" p1) [e1, e2] [] pn, ifs, 0⟩] scope pos) spos) (sSet i (sLcR (own.map (·.2)) gRng2 fr s fc fe)) :=
  (ps_setLc hc hN hy hyl hsw (pi_range2 hr hm (ha.imp fun _ _ _ z => tAQ_any z : PAQ X W false [e1, e2] fr) hs hs2) ok hg ht he (by intro _; rfl)).impI fun D σ H hl q => lcR2_ok (fun i hi hn => hP i (by rw [← hm', ← hl]; exact hi) hn) (asg_ok hiP q)
end
end DL

/-! DL12: sorted sets and lists of tuples of ints. -/
namespace DL
open PySem PySem.Spec PyProof.Rows L2

/-- tuples of ints, item by item -/
def ltI : List Int → List Int → Bool
  | [], [] => false
  | [], _ :: _ => true
  | _ :: _, [] => false
  | a :: as, b :: bs => decide (a < b) || (!decide (b < a) && ltI as bs)
theorem lexLt_inl : ∀ (a b : List Int), PyProof.Rows.lexLt itemOrd (a.map Sum.inl) (b.map Sum.inl) = ltI a b
  | [], [] => rfl
  | [], _ :: _ => rfl
  | _ :: _, [] => rfl
  | a :: as, b :: bs => by
    have ih := lexLt_inl as bs
    show (itemOrd.blt (Sum.inl a) (Sum.inl b) || (!itemOrd.blt (Sum.inl b) (Sum.inl a) && PyProof.Rows.lexLt itemOrd (as.map Sum.inl) (bs.map Sum.inl))) = _
    rw [ih]
    rfl
theorem tupItems_ints : ∀ (i : Nat) {us : List Value} {ns : List Int}, IntsAre us ns → tupItems (fun _ => false) i us = some (ns.map Sum.inl) := by
  intro i us ns h
  induction h generalizing i with
  | nil => rfl
  | @cons n t vs ns hh ih =>
    show (if false = true then none else (tupItems (fun _ => false) (i + 1) vs).map (Sum.inl n :: ·)) = _
    rw [if_neg Bool.false_ne_true, ih]
    rfl
/-- a tuple of dInts, its key -/
theorem tup_key {h : Heap} {v : Value} {ns : List Int} (t : TS.TupInts h v ns) : G.tupKeyC h (fun _ => false) v = some (ns.map Sum.inl) := by
  obtain ⟨a, xs, rfl, ⟨o, ho, hc, n, hd⟩, hi⟩ := t
  unfold G.tupKeyC
  have e1 : G.isTupObj h (.ref a) = true := by simp [G.isTupObj, ho, hc]
  rw [if_pos e1]
  simp only [tupKey, ho, hd]
  exact tupItems_ints 0 hi
theorem tup_of {h : Heap} {v : Value} {ns : List Int} (t : TS.TupInts h v ns) (hn : ns ≠ []) : ∃ f, TupOf h (fun _ => false) v f := by
  obtain ⟨a, xs, rfl, ⟨o, ho, hc, n, hd⟩, hi⟩ := t
  obtain ⟨l⟩ := xs
  cases hi with
  | nil => exact absurd rfl hn
  | cons n' t' hh => exact ⟨_, a, o, _, n, rfl, ho, hc, hd, rfl, fun _ => ⟨_, _, rfl⟩, fun e => nomatch e⟩
theorem tups_of {h : Heap} : ∀ {vs : List Value}, (∀ v ∈ vs, ∃ f, TupOf h (fun _ => false) v f) → ∃ fs, TupsOf h (fun _ => false) vs fs
  | [], _ => ⟨[], .nil⟩
  | v :: vs, hh => by
    obtain ⟨f, hf⟩ := hh v List.mem_cons_self
    obtain ⟨fs, hfs⟩ := tups_of (vs := vs) fun u hu => hh u (List.mem_cons_of_mem _ hu)
    exact ⟨f :: fs, .cons hf hfs⟩
/-- the sort's array, read as a list of values -/
theorem sort_out {h : Heap} {vs : List Value} {arr : Array Keyed} (hp : arr.Perm (pairsOf vs)) (hs : SortedToK (G.tupKindC h (fun _ => false)) arr (pairsOf vs).size) :
    (arr.map (·.2)).toList.Perm vs ∧ (arr.map (·.2)).toList.Pairwise (fun u v => PyProof.Rows.lexLt itemOrd ((G.tupKeyC h (fun _ => false) v).getD []) ((G.tupKeyC h (fun _ => false) u).getD []) = false) := by
  have hl : arr.toList.Perm (vs.zip vs) := by
    have e := Array.perm_iff_toList_perm.mp hp
    rw [pairsOf_toList] at e
    exact e
  have m : ∀ p ∈ arr.toList, p.1 = p.2 := fun p hp => (mem_zip_self (hl.mem_iff.mp hp)).1
  refine ⟨?_, ?_⟩
  · rw [Array.toList_map]
    have z := hl.map Prod.snd
    rw [List.map_snd_zip (Nat.le_refl _)] at z
    exact z
  · rw [Array.toList_map, List.pairwise_map, List.pairwise_iff_getElem]
    intro i j hi hj hij
    have hsz : (pairsOf vs).size = arr.size := by rw [pairsOf_size, ← Array.length_toList, hl.length_eq]; simp
    have e := hs i j (Nat.le_of_lt hij) (by rw [hsz]; simpa using hj)
    have gi : arr[i]? = some arr.toList[i] := by rw [← Array.getElem?_toList]; exact List.getElem?_eq_getElem hi
    have gj : arr[j]? = some arr.toList[j] := by rw [← Array.getElem?_toList]; exact List.getElem?_eq_getElem hj
    have ki : KK (G.tupKindC h (fun _ => false)) arr i = (G.tupKeyC h (fun _ => false) arr.toList[i].1).getD [] := by unfold KK; rw [gi]
    have kj : KK (G.tupKindC h (fun _ => false)) arr j = (G.tupKeyC h (fun _ => false) arr.toList[j].1).getD [] := by unfold KK; rw [gj]
    rw [ki, kj, m _ (List.getElem_mem hi), m _ (List.getElem_mem hj)] at e
    exact e
section
variable {P : Program} {w : World} {A : Around} {E : Value → Shared → Prop} {s : Shared}
/-- sorted(set) of tuples of ints, in the tuples' order -/
theorem sorted_set {a : Addr} {L : List (Addr × List Int)} {es : Array (Int × Value)} {ep : Nat} {t : SetTable} {Q : Value → Shared → Prop} (R : SetTR P w s.heap a L es ep t) (hh : A.handled = none) (hB : ∀ p ∈ L, p.2 ≠ [])
    (hQ : ∀ s' p (out : Array Value) (c : Nat) (L' : List (Addr × List Int)), (∀ b o, s.heap.get? b = some o → s'.heap.get? b = some o) → s'.gens = s.gens → s'.os = s.os → s.heap.objs.size ≤ p →
      s'.heap.get? p = some (seqObj "list" out c) → out.toList = L'.map (fun q => Value.ref q.1) → L'.Perm L → L'.Pairwise (fun q r => ltI r.2 q.2 = false) → Q (.ref p) s') :
    wpAny (model P w) A (call (.builtin "sorted") [.ref a]) Q E s := by
  obtain ⟨o, ho, hex, hd⟩ := R.ob
  have hsz := R.size
  have hfew := R.few
  refine Calls.call_function_entry kind_sorted plain_sorted entry_sorted (args_sorted1 _) ?_
  unfold Builtin.«sorted»
  refine wpAny_bind (m := checkCount "sorted" 1 1 _) (wpAny_pure ?_)
  refine wpAny_bind (collect_set (A := A.in1) hh ⟨o, ho, hex.1, hd⟩ R.fits (by unfold scanBound; omega) R.tab.ris R.led fun s1 vs k1 hz g1 o1 pm => ?_)
  have hes : es.toList.map (·.2) = L.map fun q => Value.ref q.1 := by
    rw [R.rows]
    unfold rowsOf
    rw [List.map_map] <;> rfl
  rw [hes] at pm
  have ord : ∀ vs : List Value, (∀ v ∈ vs, ∃ q ∈ L, v = Value.ref q.1) → ∃ L1 : List (Addr × List Int), vs = L1.map (fun q => Value.ref q.1) ∧ ∀ q ∈ L1, q ∈ L := by
    intro vs
    induction vs with
    | nil => intro _; exact ⟨[], rfl, fun q hq => (by cases hq)⟩
    | cons v vs ih =>
      intro hv
      obtain ⟨q, hq, e⟩ := hv v List.mem_cons_self
      obtain ⟨L1, e1, hs⟩ := ih fun u hu => hv u (List.mem_cons_of_mem _ hu)
      refine ⟨q :: L1, by rw [List.map_cons, e, e1], fun r hr => ?_⟩
      rcases List.mem_cons.mp hr with z | z
      · rw [z]; exact hq
      · exact hs r z
  have one : ∀ q ∈ L, ∀ r ∈ L, q.1 = r.1 → q = r := fun q hq r hr e => by
    have a1 := R.tup q hq
    have a2 := R.tup r hr
    rw [e] at a1
    have e2 : q.2 = r.2 := a1.inj a2
    exact Prod.ext e e2
  have perm_of : ∀ L1 : List (Addr × List Int), (∀ q ∈ L1, q ∈ L) → (L1.map (fun q => Value.ref q.1)).Perm (L.map fun q => Value.ref q.1) → L1.Perm L := by
    intro L1 hs pm1
    have nL : L.Nodup := nodup_of_map (R.nd)
    have nref : (L.map fun q => Value.ref q.1).Nodup := by
      refine List.pairwise_map.mpr (List.Pairwise.imp_of_mem (fun {q r} hq hr hne e => ?_) nL)
      injection e with e
      exact hne (one q hq r hr e)
    have n1 : L1.Nodup := nodup_of_map (pm1.nodup_iff.mpr nref)
    refine (List.perm_ext_iff_of_nodup n1 nL).mpr fun q => ⟨hs q, fun hq => ?_⟩
    have hm : Value.ref q.1 ∈ L1.map (fun q => Value.ref q.1) := pm1.mem_iff.mpr (List.mem_map.mpr ⟨q, hq, rfl⟩)
    obtain ⟨r, hr, e⟩ := List.mem_map.mp hm
    injection e with e
    rw [← one r (hs r hr) q hq e]
    exact hr
  have hvl : vs.length ≤ sizeLine := by rw [pm.length_eq, List.length_map, sizeLine_eq]; omega
  refine wpAny_bind (wpAny_newList ?_ hvl)
  have hoL : (s1.heap.push (seqObj "list" vs.toArray 0)).get? s1.heap.objs.size = some (seqObj "list" vs.toArray 0) := Heap.get?_push_size _ rfl
  have tk : ∀ q ∈ L, TS.TupInts (s1.heap.push (seqObj "list" vs.toArray 0)) (.ref q.1) q.2 := fun q hq => tupInts_of (P := P) (w := w) (isT_keep (R.tup q hq) fun b u e => Heap.get?_push_of_some _ (k1 b u e))
  have vin : ∀ v ∈ vs, ∃ q ∈ L, Value.ref q.1 = v := fun v hv => List.mem_map.mp (pm.mem_iff.mp hv)
  obtain ⟨fs, hfs⟩ := tups_of (h := s1.heap.push (seqObj "list" vs.toArray 0)) (vs := vs) fun v hv => by
    obtain ⟨q, hq, e⟩ := vin v hv
    rw [← e]
    exact tup_of (tk q hq) (hB q hq)
  refine wpAny_bind (wpAny_holding (wpAny_call_entry slot_list_sort ⟨_, hoL, rfl⟩ entry_list_sort (G.list_sort_tups (shape := fun _ => false) (s := { s1 with heap := s1.heap.push (seqObj "list" vs.toArray 0) }) hoL hfs (fun v hv => ?_) hvl fun st' a1 a2 _ => ⟨_, rfl, ?_⟩) (args_list_sort _)))
  · obtain ⟨q, hq, e⟩ := vin v hv
    rw [← e]
    exact ⟨_, tup_key (tk q hq)⟩
  · obtain ⟨b1, b2⟩ := sort_out a1 a2
    obtain ⟨c, hc⟩ := sortedHeap_at (vs := vs) (out := (arrOf st').map (·.2)) hoL
    obtain ⟨L', e', hs'⟩ := ord ((arrOf st').map (·.2)).toList fun v hv => by
      obtain ⟨q, hq, e⟩ := List.mem_map.mp (pm.mem_iff.mp (b1.mem_iff.mp hv))
      exact ⟨q, hq, e.symm⟩
    have pL : L'.Perm L := perm_of L' hs' (by rw [← e']; exact b1.trans pm)
    have pw : L'.Pairwise (fun q r => ltI r.2 q.2 = false) := by
      rw [e'] at b2
      refine List.Pairwise.imp_of_mem (fun {q r} hq hr hle => ?_) (List.pairwise_map.mp b2)
      rw [tup_key (tk q (hs' q hq)), tup_key (tk r (hs' r hr))] at hle
      rw [← lexLt_inl]
      exact hle
    refine wpAny_pure ⟨_, rfl, hQ _ s1.heap.objs.size _ c L' (fun b u e => ?_) g1 o1 hz hc e' pL pw⟩
    have q := k1 b u e
    have hlt := Heap.lt_size q
    show (sortedHeap (s1.heap.push (seqObj "list" vs.toArray 0)) s1.heap.objs.size vs _).get? b = some u
    rw [sortedHeap_old (Nat.ne_of_lt hlt) (by rw [size_push']; exact Nat.lt_succ_of_lt hlt)]
    exact Heap.get?_push_of_some _ q
end
/-- sorted(set(xs)) of tuples of ints -/
def rSortedSet (K : PySem.W.Frag) (P : Program) (w : World) : List V → Hp → VK → Prop := fun vs H Q => ∃ (a : Addr) (L : List (Addr × List Int)), vs = [V.ref a] ∧ H a = some (SetTO P w a L) ∧ (∀ p ∈ L, SqT K H p.1 (p.2.map V.int)) ∧
  (∀ p ∈ L, p.2 ≠ []) ∧
  ∀ (L' : List (Addr × List Int)) (p : Addr), L'.Perm L → (L'.map (·.2)).Nodup → L'.Pairwise (fun q r => ltI r.2 q.2 = false) → H p = none → Q (.ref p) (upd H p (.lst (L'.map fun q => V.ref q.1)))
theorem cr_sortedSet {X : Cx} (hc : X.calm = true) : CallR X (.builtin "sorted") (rSortedSet X.K X.prog X.w) := by
  intro pins s σ H vs us Q I r h
  obtain ⟨a, L, rfl, ha, hk, hB, q⟩ := h
  have R0 : SetT0 X.prog X.w s.heap a L := (I.hok a _ ha).1
  obtain ⟨es, ep, t, R⟩ := R0.full fun p hp => I.isT (hk p hp)
  rw [Vals.ref1 r]
  refine sorted_set R (I.ok.hd hc) hB fun s' p out c L' k g o hp hg hout pm pw => ?_
  have hfew : L'.length < 64 := by rw [pm.length_eq]; exact R.few
  have hlen : (L'.map fun q => V.ref q.1).length ≤ sizeLine := by rw [List.length_map, sizeLine_eq]; omega
  have hn : H p = none := I.hok.fresh hp
  have hv : Vals (L'.map fun q => V.ref q.1) out.toList := by rw [hout]; exact vals_of_refs L'
  have J : Inv X pins σ (upd H p (.lst (L'.map fun q => V.ref q.1))) { s with heap := s'.heap, gens := s'.gens, drawn := s'.drawn, toks := s'.toks } :=
    I.call (ch := []) (Un.laid k hp hn) (I.hok.laid k hp ⟨hlen, out.toList, c, hv, hg⟩) (by rw [g]; exact I.bare) (fun _ z => nomatch z)
  have e : s' = { s with heap := s'.heap, gens := s'.gens, drawn := s'.drawn, toks := s'.toks } := by
    cases s'
    cases s
    cases o
    rfl
  rw [e]
  exact ⟨.ref p, _, J, rfl, q L' p pm ((pm.map (·.2)).nodup_iff.mpr R.nd) pw hn⟩

/-! ### the order of tuples of ints -/
theorem ltI_irrefl : ∀ a : List Int, ltI a a = false
  | [] => rfl
  | a :: as => by simp [ltI, ltI_irrefl as]
theorem ltI_cons (a b : Int) (as bs : List Int) : ltI (a :: as) (b :: bs) = true ↔ a < b ∨ (a = b ∧ ltI as bs = true) := by
  simp only [ltI, Bool.or_eq_true, Bool.and_eq_true, decide_eq_true_eq, Bool.not_eq_true', decide_eq_false_iff_not]
  constructor
  · rintro (h | ⟨h1, h2⟩)
    · exact .inl h
    · by_cases h : a < b
      · exact .inl h
      · exact .inr ⟨by omega, h2⟩
  · rintro (h | ⟨h1, h2⟩)
    · exact .inl h
    · exact .inr ⟨by omega, h2⟩
theorem ltI_trans : ∀ {a b c : List Int}, ltI a b = true → ltI b c = true → ltI a c = true
  | [], [], _, h, _ => by simp [ltI] at h
  | [], _ :: _, [], _, h => by simp [ltI] at h
  | [], _ :: _, _ :: _, _, _ => rfl
  | _ :: _, [], _, h, _ => by simp [ltI] at h
  | _ :: _, _ :: _, [], _, h => by simp [ltI] at h
  | a :: as, b :: bs, c :: cs, h1, h2 => by
    rw [ltI_cons] at *
    rcases h1 with h1 | ⟨h1, h1'⟩
    · rcases h2 with h2 | ⟨h2, h2'⟩
      · exact .inl (by omega)
      · exact .inl (by omega)
    · rcases h2 with h2 | ⟨h2, h2'⟩
      · exact .inl (by omega)
      · exact .inr ⟨by omega, ltI_trans h1' h2'⟩
theorem ltI_total : ∀ {a b : List Int}, ltI a b = false → ltI b a = false → a = b
  | [], [], _, _ => rfl
  | [], _ :: _, h, _ => by simp [ltI] at h
  | _ :: _, [], _, h => by simp [ltI] at h
  | a :: as, b :: bs, h1, h2 => by
    have n1 : ¬ (a < b ∨ (a = b ∧ ltI as bs = true)) := fun z => by rw [← ltI_cons] at z; rw [z] at h1; cases h1
    have n2 : ¬ (b < a ∨ (b = a ∧ ltI bs as = true)) := fun z => by rw [← ltI_cons] at z; rw [z] at h2; cases h2
    have e : a = b := by
      have h1 : ¬ a < b := fun z => n1 (.inl z)
      have h2 : ¬ b < a := fun z => n2 (.inl z)
      omega
    subst e
    have e2 : ltI as bs = false := by
      cases q : ltI as bs with
      | false => rfl
      | true => exact (n1 (.inr ⟨rfl, q⟩)).elim
    have e3 : ltI bs as = false := by
      cases q : ltI bs as with
      | false => rfl
      | true => exact (n2 (.inr ⟨rfl, q⟩)).elim
    rw [ltI_total e2 e3]
def insU (x : List Int) : List (List Int) → List (List Int)
  | [] => [x]
  | y :: ys => if ltI x y = true then x :: y :: ys else if ltI y x = true then y :: insU x ys else y :: ys
/-- ascending, each once -/
def sortU (l : List (List Int)) : List (List Int) := l.foldr insU []
theorem mem_insU {x z : List Int} : ∀ {l : List (List Int)}, z ∈ insU x l ↔ z = x ∨ z ∈ l
  | [] => by simp [insU]
  | y :: ys => by
    unfold insU
    split
    · simp
    · split
      · rw [List.mem_cons, mem_insU (l := ys), List.mem_cons]
        constructor
        · rintro (h | h | h); exact .inr (.inl h); exact .inl h; exact .inr (.inr h)
        · rintro (h | h | h); exact .inr (.inl h); exact .inl h; exact .inr (.inr h)
      · rename_i h1 h2
        have : x = y := ltI_total (by simpa using h1) (by simpa using h2)
        subst this
        simp
theorem mem_sortU {z : List Int} : ∀ {l : List (List Int)}, z ∈ sortU l ↔ z ∈ l
  | [] => by simp [sortU]
  | y :: ys => by
    show z ∈ insU y (sortU ys) ↔ _
    rw [mem_insU, mem_sortU (l := ys), List.mem_cons]
theorem sorted_insU {x : List Int} : ∀ {l : List (List Int)}, l.Pairwise (fun a b => ltI a b = true) → (insU x l).Pairwise (fun a b => ltI a b = true)
  | [], _ => by simp [insU]
  | y :: ys, h => by
    obtain ⟨h1, h2⟩ := List.pairwise_cons.mp h
    unfold insU
    split
    · rename_i hx
      refine List.pairwise_cons.mpr ⟨fun z hz => ?_, h⟩
      rcases List.mem_cons.mp hz with rfl | hz
      · exact hx
      · exact ltI_trans hx (h1 z hz)
    · split
      · rename_i hy
        refine List.pairwise_cons.mpr ⟨fun z hz => ?_, sorted_insU h2⟩
        rcases mem_insU.mp hz with rfl | hz
        · exact hy
        · exact h1 z hz
      · exact h
theorem sorted_sortU (l : List (List Int)) : (sortU l).Pairwise (fun a b => ltI a b = true) := by
  induction l with
  | nil => simp [sortU]
  | cons x xs ih => exact sorted_insU ih
/-- two ascending lists with the same members are one -/
theorem sorted_one : ∀ {l m : List (List Int)}, l.Pairwise (fun a b => ltI a b = true) → m.Pairwise (fun a b => ltI a b = true) → (∀ z, z ∈ l ↔ z ∈ m) → l = m
  | [], [], _, _, _ => rfl
  | [], y :: ys, _, _, h => absurd ((h y).mpr List.mem_cons_self) (by simp)
  | x :: xs, [], _, _, h => absurd ((h x).mp List.mem_cons_self) (by simp)
  | x :: xs, y :: ys, hl, hm, h => by
    obtain ⟨l1, l2⟩ := List.pairwise_cons.mp hl
    obtain ⟨m1, m2⟩ := List.pairwise_cons.mp hm
    have e : x = y := by
      rcases List.mem_cons.mp ((h x).mp List.mem_cons_self) with e | hx
      · exact e
      · rcases List.mem_cons.mp ((h y).mpr List.mem_cons_self) with e | hy
        · exact e.symm
        · have a := l1 y hy
          have b := m1 x hx
          have := ltI_trans a b
          rw [ltI_irrefl] at this; cases this
    subst e
    have t : xs = ys := sorted_one l2 m2 fun z => by
      constructor
      · intro hz
        rcases List.mem_cons.mp ((h z).mp (List.mem_cons_of_mem _ hz)) with e | hz'
        · have := l1 z hz; rw [e, ltI_irrefl] at this; cases this
        · exact hz'
      · intro hz
        rcases List.mem_cons.mp ((h z).mpr (List.mem_cons_of_mem _ hz)) with e | hz'
        · have := m1 z hz; rw [e, ltI_irrefl] at this; cases this
        · exact hz'
    rw [t]
theorem sortU_of {l m : List (List Int)} (nd : m.Nodup) (pw : m.Pairwise (fun a b => ltI b a = false)) (h : ∀ z, z ∈ m ↔ z ∈ l) : m = sortU l := by
  refine sorted_one ?_ (sorted_sortU l) fun z => by rw [mem_sortU, h]
  have := List.Pairwise.and nd pw
  refine this.imp fun {a b} ⟨ne, h⟩ => ?_
  cases q : ltI a b with
  | true => rfl
  | false => exact absurd (ltI_total q h) ne

/-! ### as data -/
/-- a tuple of dInts -/
abbrev dT (ns : List Int) : D := .tup (ns.map .int)
def dInts : List D → Option (List Int)
  | [] => some []
  | .int i :: ds => match dInts ds with
    | some ns => some (i :: ns)
    | none => none
  | _ :: _ => none
def intTups : List D → Option (List (List Int))
  | [] => some []
  | .tup ds :: r => match dInts ds, intTups r with
    | some ns, some nss => some (ns :: nss)
    | _, _ => none
  | _ :: _ => none
theorem dInts_map (ns : List Int) : dInts (ns.map .int) = some ns := by
  induction ns with
  | nil => rfl
  | cons n ns ih => simp [dInts, ih]
theorem intTups_map (nss : List (List Int)) : intTups (nss.map dT) = some nss := by
  induction nss with
  | nil => rfl
  | cons n ns ih => simp [intTups, ih, dInts_map]
theorem dInts_eq : ∀ {ds : List D} {ns : List Int}, dInts ds = some ns → ds = ns.map .int
  | [], ns, h => by simp [dInts] at h; subst h; rfl
  | .int i :: ds, ns, h => by
    simp only [dInts] at h
    split at h
    · rename_i ms e
      cases h
      rw [List.map_cons, dInts_eq e]
    · cases h
  | .non :: _, _, h => by simp [dInts] at h
  | .bl _ :: _, _, h => by simp [dInts] at h
  | .str _ :: _, _, h => by simp [dInts] at h
  | .ref _ :: _, _, h => by simp [dInts] at h
  | .ty _ :: _, _, h => by simp [dInts] at h
  | .tup _ :: _, _, h => by simp [dInts] at h
  | .lst _ :: _, _, h => by simp [dInts] at h
  | .kls _ :: _, _, h => by simp [dInts] at h
  | .dic _ _ :: _, _, h => by simp [dInts] at h
  | .obj _ _ _ :: _, _, h => by simp [dInts] at h
theorem intTups_eq : ∀ {ds : List D} {nss : List (List Int)}, intTups ds = some nss → ds = nss.map dT
  | [], ns, h => by simp [intTups] at h; subst h; rfl
  | .tup xs :: ds, ns, h => by
    simp only [intTups] at h
    split at h
    · rename_i a b e1 e2
      cases h
      rw [List.map_cons, intTups_eq e2, dInts_eq e1]
    · cases h
  | .non :: _, _, h => by simp [intTups] at h
  | .bl _ :: _, _, h => by simp [intTups] at h
  | .str _ :: _, _, h => by simp [intTups] at h
  | .ref _ :: _, _, h => by simp [intTups] at h
  | .ty _ :: _, _, h => by simp [intTups] at h
  | .int _ :: _, _, h => by simp [intTups] at h
  | .lst _ :: _, _, h => by simp [intTups] at h
  | .kls _ :: _, _, h => by simp [intTups] at h
  | .dic _ _ :: _, _, h => by simp [intTups] at h
  | .obj _ _ _ :: _, _, h => by simp [intTups] at h
section
variable {K : PySem.W.Frag} {Z H : Hp}
theorem reps_ints : ∀ {ns : List Int} {vs : List V}, Reps K Z H (ns.map .int) vs → vs = ns.map V.int
  | [], _, r => by cases r; rfl
  | n :: ns, _, r => by
    cases r with
    | cons a b =>
      cases a
      rw [reps_ints b]; rfl
theorem reps_of_ints : ∀ (ns : List Int), Reps K Z H (ns.map .int) (ns.map V.int)
  | [] => .nil
  | n :: ns => .cons .int (reps_of_ints ns)
/-- the tuples' addresses -/
theorem reps_tups : ∀ {nss : List (List Int)} {vs : List V}, Reps K Z H (nss.map dT) vs → ∃ ks : List (Addr × List Int), vs = ks.map (fun p => V.ref p.1) ∧ ks.map (·.2) = nss ∧ ∀ p ∈ ks, SqT K H p.1 (p.2.map V.int)
  | [], _, r => by cases r; exact ⟨[], rfl, rfl, fun _ h => nomatch h⟩
  | n :: ns, _, r => by
    cases r with
    | cons a b =>
      cases a with
      | @tup x vs _ hq hr =>
        obtain ⟨ks, h1, h2, h3⟩ := reps_tups b
        have e := reps_ints hr
        subst e
        refine ⟨(x, n) :: ks, by rw [h1]; rfl, by rw [List.map_cons, h2], fun p hp => ?_⟩
        rcases List.mem_cons.mp hp with rfl | hp
        · exact hq
        · exact h3 p hp
theorem reps_refs : ∀ {L : List (Addr × List Int)}, (∀ p ∈ L, SqT K H p.1 (p.2.map V.int)) → Reps K Z H ((L.map (·.2)).map dT) (L.map fun p => V.ref p.1)
  | [], _ => .nil
  | p :: L, h => .cons (.tup (h p List.mem_cons_self) (reps_of_ints _)) (reps_refs fun q hq => h q (List.mem_cons_of_mem _ hq))
end
/-- sorted(set(x)) -/
def oSortSet (env : En) : List Opd → Option Opd
  | [a] => match a.tt env with
    | some u => match u.elsL with
      | some ds => match intTups ds with
        | some nss => if nss.length < 64 ∧ (∀ ns ∈ nss, ns ≠ []) then some (.t (.lst ((sortU nss).map fun ns => .z (dT ns)))) else none
        | none => none
      | none => none
    | none => none
  | _ => none
theorem link_sortSet {K : PySem.W.Frag} {P : Program} {w : World} : Link K oSortSet (fun xs H Q => rSetOfT K P w xs H fun y H2 => rSortedSet K P w [y] H2 Q) := by
  intro σ Z H F G env os xs o' Q ok er or ho hq
  unfold oSortSet at ho
  split at ho
  · rename_i a
    obtain ⟨x, A, rfl, ra⟩ := or.one
    split at ho
    · rename_i u hu
      split at ho
      · rename_i ds hd
        split at ho
        · rename_i nss hn
          split at ho
          · rename_i hc
            cases ho
            obtain ⟨b, ws, rfl, hb, rw'⟩ := (ra.seen er hu).elsL ok.sub hd
            rw [intTups_eq hn] at rw'
            obtain ⟨ks, rfl, e2, h3⟩ := reps_tups rw'
            refine ⟨b, ks, rfl, SqL.of hb, h3, by rw [← List.length_map (f := Prod.snd), e2]; exact hc.1, fun s L hs hL1 hL2 => ?_⟩
            have g1 := grow_upd (o := SetTO P w s L) hs
            refine ⟨s, L, rfl, upd_same, fun p hp => SqT.mono g1.tt (h3 p (hL1 p hp)), fun p hp => hc.2 _ (by rw [← e2]; exact List.mem_map.mpr ⟨p, hL1 p hp, rfl⟩), fun L' q pm nd pw hq' => ?_⟩
            have g2 := grow_upd (o := .lst (L'.map fun q => V.ref q.1)) hq'
            have eL : L'.map (·.2) = sortU nss := by
              refine sortU_of nd (List.pairwise_map.mpr pw) fun z => ?_
              rw [(pm.map (·.2)).mem_iff, ← e2]
              constructor
              · intro hz
                obtain ⟨p, hp, rfl⟩ := List.mem_map.mp hz
                exact List.mem_map.mpr ⟨p, hL1 p hp, rfl⟩
              · intro hz
                obtain ⟨p, hp, rfl⟩ := List.mem_map.mp hz
                exact hL2 p hp
            have gg : Grow H (upd (upd H s (SetTO P w s L)) q (.lst (L'.map fun q => V.ref q.1))) := fun a u h => g2 a u (g1 a u h)
            have hqn : H q = none := by
              cases e : H q with
              | none => rfl
              | some o => rw [g1 q o e] at hq'; cases hq'
            refine hq (.ref q) _ [q] gg (fresh1 hqn) (by simp) ?_
            have rr := new_lst (K := K) (Z := Z) (σ := σ) hq' (reps_refs (K := K) (Z := Z) (H := upd H s (SetTO P w s L)) (L := L') fun p hp => SqT.mono g1.tt (h3 p (hL1 p (pm.mem_iff.mp hp))))
            rw [eL, List.map_map] at rr
            exact rr
          · cases ho
        · cases ho
      · cases ho
    · cases ho
  · cases ho
theorem pq_sortSet {X : Cx} {W : WX} {e : Expr} {p1 p2 p3 p4 : Pos} {k : Nat} {p : Bool} {f : EM Opd} (hc : X.calm = true) (hr : Room k X.A) (hg1 : Gl X "sorted") (hm1 : X.mg "sorted" = none) (hg2 : Gl X "set") (hm2 : X.mg "set" = none) (he : PQ X W p e f)
    (hs1 : starEach [.Call (.Name "set" p2) [e] [] p3] X.env = (false, eval (.Call (.Name "set" p2) [e] [] p3) X.env) :: starEach [] X.env := by rfl) (hs2 : starEach [e] X.env = (false, eval e X.env) :: starEach [] X.env := by rfl)
    (hp1 : (backTo p4 (starEach [] X.env)).any (·.1) = false := by rfl) (hp2 : (backTo p3 (starEach [] X.env)).any (·.1) = false := by rfl) :
    PQ X W p (.Call (.Name "sorted" p1) [.Call (.Name "set" p2) [e] [] p3] [] p4) (sO oSortSet (sCons true f sNil)) :=
  (pe_callB (cr_sortedSet hc) hg1 hm1 (by decide +kernel) (pa_cons (pe_callTy (cr_setOfT hc hr.units) hg2 hm2 (by decide +kernel) (pa_cons he pa_nil hs2) (by decide) (by decide) hs2 hp2) pa_nil hs1) (by decide) (by decide) hs1 hp1).imp fun _ _ _ h => one_ok (o_ok (link_sortSet (P := X.prog) (w := X.w)) h)
end DL

/-! DL13: list(..), tuple(..), isinstance. -/
namespace DL
open PySem PySem.Spec PyProof.Rows L2

@[simp] def oListOf (env : En) : List Opd → Option Opd
  | [a] => match a.tt env with
    | some u => match u.els with
      | some ds => some (.t (.lst (ds.map .z)))
      | none => none
    | none => none
  | _ => none
@[simp] def oTupOf (env : En) : List Opd → Option Opd
  | [a] => match a.tt env with
    | some u => match u.els with
      | some ds => some (.t (.z (.tup ds)))
      | none => none
    | none => none
  | _ => none
section
variable {K : PySem.W.Frag} {Z H : Hp}
theorem Seen.els {u : T} {v : V} {ds : List D} (r : Seen K Z H u v) (sub : ∀ a o, Z a = some o → H a = some o) (e : u.els = some ds) : ∃ a vs, v = .ref a ∧ (SqL K H a vs ∨ SqT K H a vs) ∧ Reps K Z H ds vs := by
  unfold T.els at e
  split at e
  · rename_i ds' e'
    cases e
    obtain ⟨a, vs, h1, h2, h3⟩ := r.elsL sub e'
    exact ⟨a, vs, h1, .inl (SqL.of h2), h3⟩
  · split at e
    · rename_i ds' e'
      cases e
      obtain ⟨a, vs, h1, h2, h3⟩ := r.elsK sub e'
      exact ⟨a, vs, h1, .inl h2, h3⟩
    · obtain ⟨a, vs, h1, h2, h3⟩ := r.elsT e
      exact ⟨a, vs, h1, .inr h2, h3⟩
end
theorem link_listOf {K : PySem.W.Frag} : Link K oListOf (fun xs H Q => ∃ p ys, xs = [.ref p] ∧ (SqL K H p ys ∨ SqT K H p ys) ∧ ∀ l, H l = none → Q (.ref l) (upd H l (.lst ys))) := by
  intro σ Z H F G env os xs o' Q ok er or ho hq
  unfold oListOf at ho
  split at ho
  · obtain ⟨x, A, rfl, ra⟩ := or.one
    split at ho
    · rename_i u hu
      split at ho
      · rename_i ds hd
        cases ho
        obtain ⟨a, vs, rfl, h2, h3⟩ := (ra.seen er hu).els ok.sub hd
        exact ⟨a, vs, rfl, h2, fun l hn => hq _ _ [l] (grow_upd hn) (fresh1 hn) (by simp) (new_lst hn h3)⟩
      · cases ho
    · cases ho
  · cases ho
theorem link_tupOf {K : PySem.W.Frag} : Link K oTupOf (fun xs H Q => ∃ p ys, xs = [.ref p] ∧ ((SqL K H p ys ∧ ∀ l, H l = none → Q (.ref l) (upd H l (.tup ys))) ∨ (SqT K H p ys ∧ Q (.ref p) H))) := by
  intro σ Z H F G env os xs o' Q ok er or ho hq
  unfold oTupOf at ho
  split at ho
  · obtain ⟨x, A, rfl, ra⟩ := or.one
    split at ho
    · rename_i u hu
      split at ho
      · rename_i ds hd
        cases ho
        obtain ⟨a, vs, rfl, h2, h3⟩ := (ra.seen er hu).els ok.sub hd
        rcases h2 with h2 | h2
        · exact ⟨a, vs, rfl, .inl ⟨h2, fun l hn => hq _ _ [] (grow_upd hn) (fun _ z => nomatch z) (by simp) (new_tup hn h3)⟩⟩
        · exact ⟨a, vs, rfl, .inr ⟨h2, hq _ _ [] (fun _ _ z => z) (fun _ z => nomatch z) (by simp) (.t (.z (.tup h2 h3)))⟩⟩
      · cases ho
    · cases ho
  · cases ho
@[simp] def tyName : D → Option String
  | .non => some "NoneType"
  | .bl _ => some "bool"
  | .int _ => some "int"
  | .str _ => some "str"
  | .tup _ => some "tuple"
  | .lst _ => some "list"
  | .dic _ _ => some "dict"
  | _ => none
/-- the types asked here -/
@[simp] def isA : String → String → Option Bool
  | "int", "int" => some true
  | "bool", "int" => some true
  | "bool", "bool" => some true
  | "str", "str" => some true
  | "tuple", "tuple" => some true
  | "list", "list" => some true
  | "dict", "dict" => some true
  | "int", "bool" => some false
  | "int", "str" => some false
  | "int", "tuple" => some false
  | "int", "list" => some false
  | "int", "dict" => some false
  | "bool", "str" => some false
  | "bool", "tuple" => some false
  | "bool", "list" => some false
  | "bool", "dict" => some false
  | "str", "int" => some false
  | "str", "bool" => some false
  | "str", "tuple" => some false
  | "str", "list" => some false
  | "str", "dict" => some false
  | "tuple", "int" => some false
  | "tuple", "bool" => some false
  | "tuple", "str" => some false
  | "tuple", "list" => some false
  | "tuple", "dict" => some false
  | "list", "int" => some false
  | "list", "bool" => some false
  | "list", "str" => some false
  | "list", "tuple" => some false
  | "list", "dict" => some false
  | "NoneType", "int" => some false
  | "NoneType", "bool" => some false
  | "NoneType", "str" => some false
  | "NoneType", "tuple" => some false
  | "NoneType", "list" => some false
  | "NoneType", "dict" => some false
  | "dict", "int" => some false
  | "dict", "bool" => some false
  | "dict", "str" => some false
  | "dict", "tuple" => some false
  | "dict", "list" => some false
  | _, _ => none
theorem isA_kit {K : PySem.W.Frag} {a b : String} {r : Bool} (h : isA a b = some r) : PySem.W.kitOne K (.type a) (.type b) = some r := by
  refine kit_ty ?_
  unfold isA at h
  split at h <;> first | (cases h; decide +kernel) | cases h
theorem Rep.tyx {K : PySem.W.Frag} {H : Hp} {d : D} {v : V} {n : String} (r : Rep K H H d v) (e : tyName d = some n) : TyX K H v (.type n) := by
  cases r <;> simp only [tyName] at e <;> first | (cases e; done) | skip
  · cases e; exact .base .non
  · cases e; exact .base (.bl _)
  · cases e; exact .base (.int _)
  · cases e; exact .base (.str _)
  · rename_i h _
    cases e
    rcases h with (h | ⟨o, h⟩) | ⟨o, its, n, h1, h2, h3⟩
    · exact .base (.tup h)
    · exact .fTuple h
    · exact .kTuple h1 h2
  · rename_i h _
    cases e
    exact .base (.lst h)
  · rename_i h n _
    cases e
    rcases n with ⟨kvs, rfl, _⟩ | ⟨kvs, rfl, _⟩
    · exact .base (.dK h)
    · exact .base (.dT h)
@[simp] def gIsi (c : String) : List D → Option D
  | [d] => match tyName d with
    | some n => match isA n c with
      | some b => some (.bl b)
      | none => none
    | none => none
  | _ => none
theorem link_isi {K : PySem.W.Frag} {c : String} : Link K (oS (gIsi c)) (fun xs H Q => rIsi K (xs ++ [.ty c]) H Q) := by
  refine link_S fun H xs ds d Q r e q => ?_
  unfold gIsi at e
  split at e
  · obtain ⟨x, rfl, r1⟩ := r.one
    split at e
    · rename_i n hn
      split at e
      · rename_i b hb
        cases e
        exact ⟨x, .ty c, .type n, .type c, b, rfl, .ty c, r1.tyx hn, isA_kit hb, q⟩
      · cases e
    · cases e
  · cases e
section
variable {X : Cx} {W : WX} {e : Expr} {es : List Expr} {p1 p2 pos : Pos} {p pa pb : Bool} {x c : Str} {n : String} {f fa fb : EM Opd}
theorem starCons {X : Cx} (e : Expr) (es : List Expr) : True := trivial
theorem pq_list (hg : Gl X "list") (hm : X.mg "list" = none) (he : PQ X W p e f) (hs : starEach [e] X.env = (false, eval e X.env) :: starEach [] X.env := by rfl) (hpl : (backTo pos (starEach [] X.env)).any (·.1) = false := by rfl) :
    PQ X W p (.Call (.Name "list" p1) [e] [] pos) (sO oListOf (sCons true f sNil)) :=
  (pe_callTy call_list_of hg hm (by decide +kernel) (pa_cons he pa_nil hs) (by decide) (by decide) hs hpl).imp fun _ _ _ h => one_ok (o_ok link_listOf h)
theorem pq_tuple (hg : Gl X "tuple") (hm : X.mg "tuple" = none) (he : PQ X W p e f) (hs : starEach [e] X.env = (false, eval e X.env) :: starEach [] X.env := by rfl) (hpl : (backTo pos (starEach [] X.env)).any (·.1) = false := by rfl) :
    PQ X W p (.Call (.Name "tuple" p1) [e] [] pos) (sO oTupOf (sCons true f sNil)) :=
  (pe_callTy call_tuple_of hg hm (by decide +kernel) (pa_cons he pa_nil hs) (by decide) (by decide) hs hpl).imp fun _ _ _ h => one_ok (o_ok link_tupOf h)
theorem pq_int1 (hg : Gl X "int") (hm : X.mg "int" = none) (he : PQ X W p e f) (hs : starEach [e] X.env = (false, eval e X.env) :: starEach [] X.env := by rfl) (hpl : (backTo pos (starEach [] X.env)).any (·.1) = false := by rfl) :
    PQ X W p (.Call (.Name "int" p1) [e] [] pos) (sO (oS gInt) (sCons true f sNil)) :=
  (pe_callTy call_int1 hg hm (by decide +kernel) (pa_cons he pa_nil hs) (by decide) (by decide) hs hpl).imp fun _ _ _ h => one_ok (o_ok link_int h)
theorem pq_len1 (hg : Gl X "len") (hm : X.mg "len" = none) (he : PQ X W p e f) (hs : starEach [e] X.env = (false, eval e X.env) :: starEach [] X.env := by rfl) (hpl : (backTo pos (starEach [] X.env)).any (·.1) = false := by rfl) :
    PQ X W p (.Call (.Name "len" p1) [e] [] pos) (sO (oS gLen) (sCons true f sNil)) :=
  (pe_callB call_len hg hm PySem.boot_len (pa_cons he pa_nil hs) (by decide) (by decide) hs hpl).imp fun _ _ _ h => one_ok (o_ok link_len h)
theorem pq_max2 {e2 : Expr} (hc : X.calm = true) (hg : Gl X "max") (hm : X.mg "max" = none) (ha : PQ X W pa e fa) (hb : PQ X W pb e2 fb) (hs : starEach [e, e2] X.env = (false, eval e X.env) :: starEach [e2] X.env := by rfl) (hs2 : starEach [e2] X.env = (false, eval e2 X.env) :: starEach [] X.env := by rfl) (hpl : (backTo pos (starEach [e2] X.env)).any (·.1) = false := by rfl) :
    PQ X W (pa && pb) (.Call (.Name "max" p1) [e, e2] [] pos) (sO oMax2 (sCons pb fa (sCons true fb sNil))) :=
  (pe_callB (call_max2 hc) hg hm (by decide +kernel) (pa_cons ha (pa_cons hb pa_nil hs2) hs) (by decide) (by decide) hs hpl).imp fun _ _ _ h => two_ok (o_ok (link_2I fun _ _ => rfl) h)
theorem pq_min2 {e2 : Expr} (hc : X.calm = true) (hg : Gl X "min") (hm : X.mg "min" = none) (ha : PQ X W pa e fa) (hb : PQ X W pb e2 fb) (hs : starEach [e, e2] X.env = (false, eval e X.env) :: starEach [e2] X.env := by rfl) (hs2 : starEach [e2] X.env = (false, eval e2 X.env) :: starEach [] X.env := by rfl) (hpl : (backTo pos (starEach [e2] X.env)).any (·.1) = false := by rfl) :
    PQ X W (pa && pb) (.Call (.Name "min" p1) [e, e2] [] pos) (sO oMin2 (sCons pb fa (sCons true fb sNil))) :=
  (pe_callB (call_min2 hc) hg hm (by decide +kernel) (pa_cons ha (pa_cons hb pa_nil hs2) hs) (by decide) (by decide) hs hpl).imp fun _ _ _ h => two_ok (o_ok (link_2I fun _ _ => rfl) h)
theorem pq_isi {pc : Pos} (hg : Gl X "isinstance") (hm : X.mg "isinstance" = none) (hgc : Gl X c) (hmc : X.mg c = none) (hb : bootBuiltins c = some (.type n)) (he : PQ X W p e f) (hn : c ≠ "__name__" := by decide) (hd : (c == ("__debug__" : Str)) = false := by decide)
    (hs : starEach [e, .Name c pc] X.env = (false, eval e X.env) :: starEach [.Name c pc] X.env := by rfl) (hs2 : starEach [.Name c pc] X.env = (false, eval (.Name c pc) X.env) :: starEach [] X.env := by rfl) (hpl : (backTo pos (starEach [.Name c pc] X.env)).any (·.1) = false := by rfl) :
    PQ X W p (.Call (.Name "isinstance" p1) [e, .Name c pc] [] pos) (sO (oS (gIsi n)) (sCons true f sNil)) :=
  (pe_callB call_isi hg hm (by decide +kernel) (pa_cons he (pa_cons (pe_bltn (v := .ty n) hgc hmc hb rfl hn hd) pa_nil hs2) hs) (by decide) (by decide) hs hpl).imp fun _ _ _ h => one_ok (o_ok link_isi h)
end
end DL

/-! DL14: defs of the text. -/
namespace DL
open PySem PySem.Spec PyProof.Rows L2

/-- a def of the text -/
structure DefAt (K : PySem.W.Frag) (mg : Str → Option Value) (x : Str) (st : Stmt) (ps : List Str) (f : Addr) (fd : FuncData) : Prop where
  fn : FunD K x x (defArgs st) (defBody st) (defScope st) [] [] f fd
  mg : mg x = some (.ref f)
  b : Binds K fd ps []
theorem def_okD {P : Program} {w : World} {K : PySem.W.Frag} {mg : Str → Option Value} {base : Heap} {x : Str} {st : Stmt} {f : Addr} {fd : FuncData} {N ps : List Str} {k : Nat} {io : List Bool} {g : SM} (Fn : DefAt K mg x st ps f fd) (S : FnScope N ps (defScope st)) (hio : io.length ≤ ps.length) (hN : ps.length ≤ N.length)
    (body : ∀ (cdv : Value) (A : Around) (outer : List PySem.Env) (s : Shared) (H : Hp) (E : XK), Room k (A.deeper (envOfC x (defScope st) s.heap.objs.size f cdv)) →
      PBQ (cxOf (L2.CX P w) P w K mg base N x (defScope st) f cdv A outer s H E) (fun cls d _ H => E cls d H) (maskIx 0 io) (defBody st) g) :
    FnOk P w K mg base (L2.CX P w) (k + 1) f fd ps (spF K ps.length io (fnOf ps.length N.length io g)) := by
  refine Fn.fn.ok S (fun vs H Q E h => h.1) (fun cdv A outer s H vs Q E hr h => ?_)
  refine ⟨_, body cdv A outer s H E hr, ?_⟩
  obtain ⟨hl, Z, ts, F, ok, r, out, ho, post⟩ := h
  unfold fnOf at ho
  have hts : ts.length = ps.length := r.length.trans hl
  rw [if_pos hts] at ho
  have er := envR_start r (N.length - ps.length)
  have eσ : L2.start N vs = vs.map some ++ List.replicate (N.length - ps.length) none := by unfold L2.start; rw [hl]
  rw [eσ]
  have fin_ok : ∀ {e : En} {fin : List T} {σ' : L2.St} {Z' H' : Hp} {F' : List Addr}, EnvR K Z' H' e σ' F' → fins io e = some fin → Pin (maskIx 0 io) (vs.map some ++ List.replicate (N.length - ps.length) none) σ' →
      ∃ F2, RepTs K Z' H' fin (pick io vs) F2 ∧ F2.Sublist F' := fun {e fin σ' Z' H' F'} er' hf pn => by
    obtain ⟨ws, F2, _, h1, h2, h3⟩ := fins_ok er' hf
    have h4 := pick_pin (io := io) (k := 0) (σ := vs.map some ++ List.replicate (N.length - ps.length) none) (σ' := σ') (A := []) (A' := []) rfl rfl (fun i hi => by simpa using pn.2 i hi) (by simp [hl]; omega) (by rw [← er'.length]; exact fins_len hf)
    rw [h3, pick_some (by rw [hl]; exact hio)] at h4
    have h5 : ws = pick io vs := by
      have := congrArg (List.filterMap id) h4
      simpa using this
    subst h5
    exact ⟨F2, h1, h2⟩
  refine ⟨Z, _, F, ok, er, ?_⟩
  split at ho
  · rename_i e hg
    split at ho
    · rename_i fin hf
      cases ho
      refine ⟨_, hg, fun σ' H' Z' F' x1 ok1 er1 pn => ?_⟩
      obtain ⟨F2, r2, sl⟩ := fin_ok er1 hf pn
      exact post .non H' Z' F2 [] (by simpa using x1.sub fun a ha => sl.subset ha) (by simpa using ok1.subF sl) r2 (.z .non)
    · cases ho
  · rename_i t e hg
    split at ho
    · rename_i fin hf
      cases ho
      refine ⟨_, hg, fun v σ' H' Z' F' G x1 ok1 er1 rt pn => ?_⟩
      obtain ⟨F2, r2, sl⟩ := fin_ok er1 hf pn
      have sl' : (F2 ++ G).Sublist (F' ++ G) := sl.append_right G
      exact post v H' Z' F2 G (x1.sub fun a ha => sl'.subset ha) (ok1.subF sl') r2 rt
    · cases ho
  · rename_i y e hg
    split at ho
    · rename_i fin hf
      cases ho
      refine ⟨_, hg, fun d σ' H' Z' F' x1 ok1 er1 xr pn => ?_⟩
      obtain ⟨F2, r2, sl⟩ := fin_ok er1 hf pn
      exact post d H' Z' F2 (x1.sub fun a ha => sl.subset ha) (ok1.subF sl) r2 xr
    · cases ho
  · cases ho
/-- the script, as data -/
theorem script_rep {K : PySem.W.Frag} {H : Hp} {a : Addr} {ns : List Int} (h : SqL K H a (ns.map V.int)) : Rep K H H (.kls (ns.map .int)) (.ref a) := .kls h (reps_of_ints ns)
/-- the law's promise: a list of ints is handed in, True comes out -/
def spLaw (K : PySem.W.Frag) : Sp := fun vs H Q _ => ∃ (a : Addr) (ns : List Int), vs = [.ref a] ∧ SqL K H a (ns.map V.int) ∧ ns.length ≤ 63 ∧ ∀ H', Q (.bl true) H'
theorem law_sp {K : PySem.W.Frag} {F : FSem} (h : ∀ ns : List Int, ns.length ≤ 63 → F [.z (.kls (ns.map .int))] = some (.rt (.z (.bl true)) [])) : ∀ vs H Q E, spLaw K vs H Q E → spF K 1 [] F vs H Q E := by
  rintro vs H Q E ⟨a, ns, rfl, hS, hl, q⟩
  refine ⟨rfl, H, [.z (.kls (ns.map .int))], [], ⟨fun _ _ h => h, List.nodup_nil, (fun _ h => nomatch h), (fun _ h => nomatch h)⟩, .cons (F := []) (G := []) (.z (script_rep hS)) .nil, _, h ns hl, ?_⟩
  intro v H' Z' F' G _ _ _ rt
  cases rt with
  | z r =>
    cases r
    exact q H'
end DL

/-! DL15: the law's end. -/
namespace DL
open PySem PySem.Spec PyProof.Rows L2
theorem cx_e0 {P : Program} {w : World} {outer : List PySem.Env} {H : Hp} {s s' : Shared} {u : Value} (z : L2.CX P w outer H s L2.E0 u s') : False := by
  obtain ⟨_, _, _, _, _, _, _, _, _, _, _, _, z⟩ := z
  exact z
theorem fn_drop {P : Program} {w : World} {K : PySem.W.Frag} {mg : Str → Option Value} {base : Heap} {k : Nat} {f : Addr} {fd : FuncData} {ps : List Str} {sp sp' : Sp} (F : FnOk P w K mg base (L2.CX P w) k f fd ps sp)
    (h : ∀ vs H Q E, sp' vs H Q E → sp vs H Q E0) : FnOk P w K mg base L2.CX0 k f fd ps sp' :=
  ⟨fun vs H Q E q => F.len vs H Q E0 (h _ _ _ _ q), fun A outer s H args us vs Q E hr he hb hv hs => codeAny_mono (F.run A outer s H args us vs Q E0 hr he hb hv (h _ _ _ _ hs)) fun r s' q => by
    unfold L2.CR at q ⊢
    split at q
    · exact q
    · exact q.elim
    · exact (cx_e0 q).elim⟩
/-- the law's def keeps the law's promise -/
theorem law_fn {P : Program} {w : World} {K : PySem.W.Frag} {mg : Str → Option Value} {base : Heap} {k : Nat} {f : Addr} {fd : FuncData} {F : FSem} (h : FnOk P w K mg base (L2.CX P w) k f fd ["script"] (spF K 1 [] F))
    (top : ∀ ns : List Int, ns.length ≤ 63 → F [.z (.kls (ns.map .int))] = some (.rt (.z (.bl true)) [])) : FnOk P w K mg base L2.CX0 k f fd ["script"] (spLaw K) :=
  fn_drop h fun vs H Q E q => law_sp top vs H Q E0 (by
    obtain ⟨a, ns, e, hS, hl, q⟩ := q
    exact ⟨a, ns, e, hS, hl, q⟩)
end DL

/-! DL16: evaluation. -/
namespace DL
open PySem PySem.Spec PyProof.Rows L2

abbrev iT (i : Int) : T := .z (.int i)
abbrev bT (b : Bool) : T := .z (.bl b)
section
variable {g h : SM} {f fa fb fi : EM Opd} {fr : EM (List Opd)} {fc ta tb : EM Bool} {o : En → List Opd → Option Opd} {env : En} {i n m : Nat} {p2 : Bool} {s : GM} {r : List T → En → Option En} {io : List Bool} {Fn : FSem} {own : List Nat} {fe : EM Opd} {gr : List D → Option (Int × Nat)}
@[simp] theorem sNext_ap : sNext env = some (.nx env) := rfl
@[simp] theorem sSeq_ap : sSeq g h env = (match g env with
  | some (.nx e) => h e
  | r => r) := rfl
@[simp] theorem sBreak_ap : sBreak env = some (.bk env) := rfl
@[simp] theorem sCont_ap : sCont env = some (.ct env) := rfl
@[simp] theorem sSet_ap : sSet i f env = (match f env with
  | none => none
  | some (.ex x e) => some (.ex x e)
  | some (.ok o e) => match o.take e with
    | none => none
    | some (t, e') => if i < e'.length then some (.nx (e'.set i (some t))) else none) := rfl
@[simp] theorem sRet_ap : sRet f env = (match f env with
  | none => none
  | some (.ex x e) => some (.ex x e)
  | some (.ok o e) => match o.mv e with
    | none => none
    | some (t, e') => some (.rt t e')) := rfl
@[simp] theorem sRetN_ap : sRetN env = some (.rt (.z .non) env) := rfl
@[simp] theorem sDrop_ap : sDrop f env = (match f env with
  | none => none
  | some (.ex x e) => some (.ex x e)
  | some (.ok _ e) => some (.nx e)) := rfl
@[simp] theorem sIfS_ap : sIfS fc g h env = (match fc env with
  | none => none
  | some (.ex x e) => some (.ex x e)
  | some (.ok b e) => if b = true then g e else h e) := rfl
@[simp] theorem sVar_ap : sVar i env = (match env[i]? with
  | some (some (.z d)) => some (.ok (.t (.z d)) env)
  | some (some _) => some (.ok (.s i) env)
  | _ => none) := rfl
@[simp] theorem sC_ap {d : D} : sC d env = some (.ok (.t (.z d)) env) := rfl
@[simp] theorem sNil_ap : sNil env = some (.ok [] env) := rfl
@[simp] theorem sCons_ap : sCons p2 fa fr env = (match fa env with
  | none => none
  | some (.ex x env1) => some (.ex x env1)
  | some (.ok o env1) => match fr env1 with
    | none => none
    | some (.ex x env2) => some (.ex x env2)
    | some (.ok os env2) => if (p2 || o.stays) = true then some (.ok (o :: os) env2) else none) := rfl
@[simp] theorem sO_ap : sO o fr env = (match fr env with
  | none => none
  | some (.ex x e) => some (.ex x e)
  | some (.ok os e) => match o e os with
    | none => none
    | some x => some (.ok x e)) := rfl
@[simp] theorem sTb_ap : sTb f env = (match f env with
  | none => none
  | some (.ex x e) => some (.ex x e)
  | some (.ok o e) => match o.rd e with
    | some (.bl b) => some (.ok b e)
    | _ => none) := rfl
@[simp] theorem sTr_ap : sTr f env = (match f env with
  | none => none
  | some (.ex x e) => some (.ex x e)
  | some (.ok o e) => match o.rd e with
    | none => none
    | some d => match gTru d with
      | none => none
      | some b => some (.ok b e)) := rfl
@[simp] theorem sAnd_ap {fa fb : EM Bool} : sAnd fa fb env = (match fa env with
  | some (.ok true e) => fb e
  | r => r) := rfl
@[simp] theorem sOr_ap {fa fb : EM Bool} : sOr fa fb env = (match fa env with
  | some (.ok false e) => fb e
  | r => r) := rfl
@[simp] theorem sNot_ap : sNot fc env = (match fc env with
  | some (.ok b e) => some (.ok (!b) e)
  | r => r) := rfl
@[simp] theorem sAndV_ap : sAndV fa fb env = (match fa env with
  | none => none
  | some (.ex x e) => some (.ex x e)
  | some (.ok o e) => match o.rd e with
    | some (.bl true) => fb e
    | some (.bl false) => some (.ok (.t (.z (.bl false))) e)
    | _ => none) := rfl
@[simp] theorem sOrV_ap : sOrV fa fb env = (match fa env with
  | none => none
  | some (.ex x e) => some (.ex x e)
  | some (.ok o e) => match o.rd e with
    | some (.bl false) => fb e
    | some (.bl true) => some (.ok (.t (.z (.bl true))) e)
    | _ => none) := rfl
@[simp] theorem sIf_ap : sIf fc fa fb env = (match fc env with
  | none => none
  | some (.ex x e) => some (.ex x e)
  | some (.ok b e) => if b = true then fa e else fb e) := rfl
@[simp] theorem sTake_ap {h : List T → Option T} : sTake h fr env = (match fr env with
  | none => none
  | some (.ex x e) => some (.ex x e)
  | some (.ok os e) => match takes os e with
    | none => none
    | some (ts, e') => match h ts with
      | none => none
      | some t => some (.ok (.t t) e')) := rfl
@[simp] theorem sCallL_ap : sCallL n Fn fr env = (match fr env with
  | none => none
  | some (.ex x e) => some (.ex x e)
  | some (.ok os e) => match rds e os with
    | none => none
    | some ds => if ds.length = n then match Fn (ds.map .z) with
      | some (.rt t []) => if t.clean = true then some (.ok (.t t) e) else none
      | some (.ex x []) => if D.imms x.vs = true then some (.ex x e) else none
      | _ => none
      else none) := by
  unfold sCallL
  rfl
@[simp] theorem sCallT_ap : sCallT n io Fn fr env = (match fr env with
  | none => none
  | some (.ex x e) => some (.ex x e)
  | some (.ok os e) => match takeIO io os e with
    | none => none
    | some (ts, e1) => if ts.length = n then match Fn ts with
      | some (.rt t fin) => match putIO io os fin e1 with
        | some e2 => some (.ok (.t t) e2)
        | none => none
      | some (.ex x fin) => match putIO io os fin e1 with
        | some e2 => some (.ex x e2)
        | none => none
      | none => none
      else none) := rfl
@[simp] theorem sForN_ap : sForN i s g env = (match env[i]? with
  | some (some (.z d)) => match (T.z d).els with
    | some ds => forF s g ds env
    | none => none
  | some (some u) => match u.els with
    | some ds => back i u (forF s g ds (env.set i none))
    | none => none
  | _ => none) := rfl
@[simp] theorem sFor_ap : sFor fi s g env = (match fi env with
  | none => none
  | some (.ex x e) => some (.ex x e)
  | some (.ok (.t u) e) => match u.els with
    | some ds => forF s g ds e
    | none => none
  | some (.ok _ _) => none) := rfl
@[simp] theorem sForR_ap : sForR gr fr s g env = (match fr env with
  | none => none
  | some (.ex x e) => some (.ex x e)
  | some (.ok os e) => match rds e os with
    | none => none
    | some ds => match gr ds with
      | none => none
      | some (lo, n) => forF s g (rngD lo n) e) := rfl
@[simp] theorem gmName_ap {t : T} : gmName i t env = (if i < env.length then some (env.set i (some t)) else none) := rfl
@[simp] theorem gmCons_ap {t : T} {ts : List T} : gmCons s r (t :: ts) env = (match s t env with
    | none => none
    | some e => r ts e) := rfl
@[simp] theorem gmNil_ap : gmNil [] env = some env := rfl
@[simp] theorem gmTup_z {ds : List D} : gmTup n r (.z (.tup ds)) env = (if ds.length = n then r (ds.map .z) env else none) := rfl
@[simp] theorem gmTup_t {ts : List T} : gmTup n r (.tup ts) env = (if ts.length = n then r ts env else none) := rfl
@[simp] theorem sAsg_ap : sAsg s f env = (match f env with
  | none => none
  | some (.ex x e) => some (.ex x e)
  | some (.ok o e) => match o.take e with
    | none => none
    | some (t, e') => match s t e' with
      | none => none
      | some e2 => some (.nx e2)) := rfl
@[simp] theorem sPop_ap : sPop i env = (match env[i]? with
  | some (some (.lst ts)) => match ts.getLast? with
    | some t => some (.ok (.t t) (env.set i (some (.lst ts.dropLast))))
    | none => none
  | _ => none) := rfl
@[simp] theorem sRev_ap : sRev i env = (match env[i]? with
  | some (some (.lst ts)) => some (.nx (env.set i (some (.lst ts.reverse))))
  | _ => none) := rfl
@[simp] theorem sApp_ap : sApp i f env = (if isLst env i = true then match f env with
  | none => none
  | some (.ex x e) => some (.ex x e)
  | some (.ok o e) => match o.take e with
    | none => none
    | some (t, e') => match e'[i]? with
      | some (some (.lst ts)) => if ts.length < sizeLine then some (.nx (e'.set i (some (.lst (ts ++ [t]))))) else none
      | _ => none
  else none) := rfl
@[simp] theorem sSetAt_ap : sSetAt i fr env = (if isLst env i = true then match fr env with
  | none => none
  | some (.ex x e) => some (.ex x e)
  | some (.ok [o, k] e) => match k.rd e with
    | some (.int j) => match o.take e with
      | none => none
      | some (t, e') => match e'[i]? with
        | some (some (.lst ts)) => match ixN ts.length j with
          | some n => some (.nx (e'.set i (some (.lst (ts.set n t)))))
          | none => none
        | _ => none
    | _ => none
  | _ => none
  else none) := rfl
@[simp] theorem sYes_ap : sYes env = some (.ok true env) := rfl
@[simp] theorem sLc_ap : sLc own fi s fc fe env = (match fi env with
  | some (.ok (.t u) e1) => match u.els with
    | some ds => match compF own s fc fe ds (wipeE e1 own) [] with
      | some (ts, e2) => some (.ok (.t (.lst ts)) e2)
      | none => none
    | none => none
  | _ => none) := rfl
@[simp] theorem sLcN_ap : sLcN own i s fc fe env = (match env[i]? with
  | some (some (.z d)) => match (T.z d).els with
    | some ds => match compF own s fc fe ds (wipeE env own) [] with
      | some (ts, e2) => some (.ok (.t (.lst ts)) e2)
      | none => none
    | none => none
  | some (some u) => match u.els with
    | some ds => match compF own s fc fe ds (wipeE (env.set i none) own) [] with
      | some (ts, e2) => if i < e2.length then some (.ok (.t (.lst ts)) (e2.set i (some u))) else none
      | none => none
    | none => none
  | _ => none) := rfl
@[simp] theorem sLcR_ap : sLcR own gr fr s fc fe env = (match fr env with
  | some (.ok os e1) => match rds e1 os with
    | some ds => match gr ds with
      | some (lo, n) => match compF own s fc fe (rngD lo n) (wipeE e1 own) [] with
        | some (ts, e2) => some (.ok (.t (.lst ts)) e2)
        | none => none
      | none => none
    | none => none
  | _ => none) := rfl
theorem fnOf_ap {ts : List T} : fnOf n m io g ts = (if ts.length = n then match g (ts.map some ++ List.replicate (m - n) none) with
    | some (.nx e) => match fins io e with
      | some fin => some (.rt (.z .non) fin)
      | none => none
    | some (.rt t e) => match fins io e with
      | some fin => some (.rt t fin)
      | none => none
    | some (.ex x e) => match fins io e with
      | some fin => some (.ex x fin)
      | none => none
    | _ => none
  else none) := rfl
end
@[simp] theorem clean_z (d : D) : (T.z d).clean = d.imm := by rw [T.clean]
@[simp] theorem ers_append (a b : List T) : T.ers (a ++ b) = T.ers a ++ T.ers b := by
  induction a with
  | nil => rfl
  | cons d ds ih => simp [T.ers, ih]
@[simp] theorem ers_eq_nil (a : List T) : T.ers a = [] ↔ a = [] := by cases a <;> simp [T.ers]
@[simp] theorem ers_map_z (ds : List D) : T.ers (ds.map T.z) = ds := by
  induction ds with
  | nil => rfl
  | cons d ds ih => simp [T.ers, ih]
@[simp] theorem ers_mapf {α : Type} (f : α → D) (xs : List α) : T.ers (xs.map fun x => T.z (f x)) = xs.map f := by
  induction xs with
  | nil => rfl
  | cons d ds ih => simp [T.ers, ih]
@[simp] theorem zs_mapz {α : Type} (f : α → D) (xs : List α) : zs (xs.map fun x => T.z (f x)) = some (xs.map f) := by
  induction xs with
  | nil => rfl
  | cons d ds ih => simp [zs, ih]
@[simp] theorem imms_map {α : Type} (f : α → D) (h : ∀ x, (f x).imm = true) (xs : List α) : D.imms (xs.map f) = true := by
  induction xs with
  | nil => rfl
  | cons d ds ih => simp [D.imms, ih, h]
theorem cleans_map {α : Type} (f : α → D) (h : ∀ x, (f x).imm = true) (xs : List α) : T.cleans (xs.map fun x => T.z (f x)) = true := by
  induction xs with
  | nil => rfl
  | cons d ds ih => simp [T.cleans, T.clean, ih, h]
@[simp] theorem dT_imm (ns : List Int) : (dT ns).imm = true := by
  simp only [dT, D.imm]
  exact imms_map _ (fun _ => rfl) ns
theorem shds_map {α : Type} (n : Nat) (f : α → D) (h : ∀ x, (f x).shd n = true) (xs : List α) : D.shds n (xs.map f) = true := by
  induction xs with
  | nil => simp [D.shds]
  | cons d ds ih => simp [D.shds, ih, h]
@[simp] theorem shds_ints (n : Nat) (xs : List Int) : D.shds n (xs.map .int) = true := shds_map n _ (fun _ => by simp [D.shd]) xs
@[simp] theorem shds_dT (n : Nat) (xs : List (List Int)) : D.shds (n + 1) (xs.map dT) = true := shds_map _ _ (fun x => by simp [dT, D.shd]) xs
@[simp] theorem deq_int (a b : Int) : deq (.int a) (.int b) = decide (a = b) := by
  simp [deq, D.py, PyData.eqv]
  rfl
@[simp] theorem deq_bl (a b : Bool) : deq (.bl a) (.bl b) = decide (a = b) := by
  simp [deq, D.py, PyData.eqv]
  cases a <;> cases b <;> rfl
theorem eqvAll_map {α : Type} [DecidableEq α] (f : α → D) (h : ∀ x y, PyData.eqv (f x).py (f y).py = decide (x = y)) : ∀ (xs ys : List α), PyData.eqvAll (D.pys (xs.map f)) (D.pys (ys.map f)) = decide (xs = ys)
  | [], [] => rfl
  | [], _ :: _ => rfl
  | _ :: _, [] => rfl
  | x :: xs, y :: ys => by
    have ih := eqvAll_map f h xs ys
    simp only [List.map_cons, D.pys, PyData.eqvAll, h, ih]
    by_cases e : x = y <;> by_cases e2 : xs = ys <;> simp [e, e2]
@[simp] theorem deq_dT (a b : List Int) : deq (dT a) (dT b) = decide (a = b) := by
  have := eqvAll_map D.int (fun x y => deq_int x y) a b
  simpa [deq, D.py, PyData.eqv, dT] using this
@[simp] theorem deq_dT' (a b : List Int) : deq (.tup (a.map .int)) (.tup (b.map .int)) = decide (a = b) := deq_dT a b
@[simp] theorem deq_lT (a b : List (List Int)) : deq (.lst (a.map dT)) (.lst (b.map dT)) = decide (a = b) := by
  have := eqvAll_map dT (fun x y => deq_dT x y) a b
  simpa [deq, D.py, PyData.eqv] using this
@[simp] theorem deq_li (a b : List Int) : deq (.lst (a.map .int)) (.lst (b.map .int)) = decide (a = b) := by
  have := eqvAll_map D.int (fun x y => deq_int x y) a b
  simpa [deq, D.py, PyData.eqv] using this
theorem sizeLine_val : (10000 : Nat) < sizeLine := by decide
theorem atI_get {α : Type} (xs : List α) (k : Nat) (h : k < xs.length) : atI xs (k : Int) = some xs[k] := atI_nat (List.getElem?_eq_getElem h)
theorem ixN_get (n k : Nat) (h : k < n) : ixN n (k : Int) = some k := by
  unfold ixN
  rw [if_pos (by omega), if_pos (by omega)]
  simp
/-! ### the laws' helpers: cell, draws, take -/
noncomputable def gCell : SM :=
  (sSeq (sIfS (sTb (sO oLt (sCons true (sVar 1) (sCons true (sO (oS gLen) (sCons true (sVar 0) sNil)) sNil))))
    (sRet (sO oIx (sCons true (sVar 0) (sCons true (sVar 1) sNil))))
    sNext)
  (sRet (sC (.int 0))))
theorem cell_ev (ns : List Int) (k : Nat) : fnOf 2 2 [] gCell [.z (.kls (ns.map D.int)), iT k] = some (.rt (iT (ns.getD k 0)) []) := by
  unfold gCell
  by_cases h : k < ns.length
  · have e := atI_get (ns.map D.int) k (by simpa using h)
    simp [fnOf_ap, h, e]
  · have h2 : ¬ ((k : Int) < ns.length) := by omega
    simp [fnOf_ap, h, h2]
noncomputable def gTake : SM :=
  (sSeq (sIfS (sTb (sO (oS gEq) (sCons true (sO (oS gLen) (sCons true (sVar 0) sNil)) (sCons true (sC (.int 0)) sNil))))
    (sRet (sC (.int 0)))
    sNext)
  (sRet (sO oMod (sCons true (sO (oS gInt) (sCons true (sPop 0) sNil)) (sCons true (sVar 1) sNil)))))
/-- the draws as a machine -/
def dtake (xs : List Int) (n : Int) : Int × List Int := if xs = [] then (0, []) else (xs.getLastD 0 % n, xs.dropLast)
theorem take_ev (xs : List Int) (n : Int) (hn : 0 < n) : fnOf 2 2 [true] gTake [.lst (xs.map iT), iT n] = some (.rt (iT (dtake xs n).1) [.lst ((dtake xs n).2.map iT)]) := by
  unfold gTake dtake
  rcases List.eq_nil_or_concat xs with h | ⟨ys, y, rfl⟩
  · subst h
    simp [fnOf_ap]
  · have h2 : ¬ ((ys.length : Int) + 1 = 0) := by omega
    simp [fnOf_ap, h2, hn]
theorem dtake_bd (xs : List Int) {n : Int} (hn : 0 < n) : 0 ≤ (dtake xs n).1 ∧ (dtake xs n).1 < n := by
  unfold dtake
  split
  · exact ⟨by simp, hn⟩
  · exact ⟨Int.emod_nonneg _ (by omega), Int.emod_lt_of_pos _ hn⟩
theorem pow_ev {env : En} (i j k : Int) (h : 0 ≤ j ∧ j ≤ 1000000 ∧ i.natAbs < 2 ^ 64) (e : i ^ j.toNat = k) : sO oPow (sCons true (sC (.int i)) (sCons true (sC (.int j)) sNil)) env = some (.ok (.t (iT k)) env) := by
  have hd : decide (0 ≤ j ∧ j ≤ 1000000 ∧ i.natAbs < 2 ^ 64) = true := decide_eq_true h
  simp only [sO_ap, sCons_ap, sC_ap, sNil_ap, Bool.true_or, if_true, oPow, oS, gI, rds, Opd.rd, T.er, hd, e, D.scal]
@[simp high] theorem pow18 {env : En} : sO oPow (sCons true (sC (.int 10)) (sCons true (sC (.int 18)) sNil)) env = some (.ok (.t (iT 1000000000000000000)) env) := pow_ev 10 18 _ (by decide) (by decide)
@[simp high] theorem pow30 {env : En} : sO oPow (sCons true (sC (.int 10)) (sCons true (sC (.int 30)) sNil)) env = some (.ok (.t (iT 1000000000000000000000000000000)) env) := pow_ev 10 30 _ (by decide) (by decide)
theorem sSeq_nx {g h : SM} {env e : En} (x : g env = some (.nx e)) : sSeq g h env = h e := by rw [sSeq_ap, x]
theorem sSeq_rt {g h : SM} {env e : En} {t : T} (x : g env = some (.rt t e)) : sSeq g h env = some (.rt t e) := by rw [sSeq_ap, x]
theorem p64 : (2 : Int) ^ 64 = 18446744073709551616 := by decide
theorem mul_ev {env : En} {p : Bool} {fa fb : EM Opd} {i j : Int} (a : fa env = some (.ok (.t (iT i)) env)) (b : fb env = some (.ok (.t (iT j)) env)) (h : (-18446744073709551616 < i ∧ i < 18446744073709551616) ∨ (-18446744073709551616 < j ∧ j < 18446744073709551616)) : sO oMul (sCons p fa (sCons true fb sNil)) env = some (.ok (.t (iT (i * j))) env) := by
  have e : oMul env [.t (iT i), .t (iT j)] = some (.t (iT (i * j))) := by
    unfold oMul
    simp only [Opd.rd, T.er]
    have : okMul i j = true := by rw [okMul_eq]; exact decide_eq_true (by rw [p64]; exact h)
    simp only [this, if_true]
  simp only [sO_ap, sCons_ap, sNil_ap, a, b, Bool.true_or, Opd.stays, Bool.or_true, if_true, e]
noncomputable def gDraw1 : SM := (sSet 6 (sO oMod (sCons true (sVar 5) (sCons true (sO (oS gLen) (sCons true (sVar 2) sNil)) sNil))))
noncomputable def gDraw2 : SM := (sSet 7 (sO oIx (sCons true (sVar 2) (sCons true (sVar 6) sNil))))
noncomputable def gDraw3 : SM := (sSet 4 (sO oMod (sCons true (sO (oS gInt) (sCons true (sO oAdd (sCons true (sO oAdd (sCons true (sO oAdd (sCons true (sO oMul (sCons true (sVar 4) (sCons true (sC (.int 48271)) sNil))) (sCons true (sO oMul (sCons true (sO oMod (sCons true (sO (oS gInt) (sCons true (sVar 7) sNil)) (sCons true (sC (.int 1000003)) sNil))) (sCons true (sC (.int 69621)) sNil))) sNil))) (sCons true (sO oMul (sCons true (sVar 5) (sCons true (sC (.int 7919)) sNil))) sNil))) (sCons true (sC (.int 11)) sNil))) sNil)) (sCons true (sC (.int 2147483647)) sNil))))
noncomputable def gDraw4 : SM := (sSet 8 (sO oMod (sCons true (sO (oS gInt) (sCons true (sO oAdd (sCons true (sO oAdd (sCons true (sO oMul (sCons true (sVar 4) (sCons true (sVar 4) sNil))) (sCons true (sO oMul (sCons true (sC (.int 31)) (sCons true (sVar 4) sNil))) sNil))) (sCons true (sVar 5) sNil))) sNil)) (sCons true (sC (.int 1000003)) sNil))))
noncomputable def gDraw5 : SM := (sIfS (sTb (sO oGe (sCons true (sVar 7) (sCons true (sO oPow (sCons true (sC (.int 10)) (sCons true (sC (.int 18)) sNil))) sNil))))
      (sSeq (sApp 3 (sO oMod (sCons true (sO (oS gInt) (sCons true (sVar 7) sNil)) (sCons true (sC (.int 1000)) sNil))))
      (sSetAt 2 (sCons true (sO oDiv (sCons true (sVar 7) (sCons true (sC (.int 1000)) sNil))) (sCons true (sVar 6) sNil))))
      (sApp 3 (sO oMod (sCons true (sO (oS gInt) (sCons true (sVar 8) sNil)) (sCons true (sC (.int 1000)) sNil)))))
noncomputable def gDrawB : SM := sSeq gDraw1 (sSeq gDraw2 (sSeq gDraw3 (sSeq gDraw4 gDraw5)))
noncomputable def gDraws : SM :=
  (sSeq (sSet 2 (sO oListOf (sCons true (sVar 0) sNil)))
  (sSeq (sIfS (sTb (sO (oS gEq) (sCons true (sO (oS gLen) (sCons true (sVar 2) sNil)) (sCons true (sC (.int 0)) sNil))))
    (sSet 2 (sO oLst (sCons true (sC (.int 7)) sNil)))
    sNext)
  (sSeq (sSet 3 (sTake hLst sNil))
  (sSeq (sSet 4 (sC (.int 12345)))
  (sSeq (sForR gRng1 (sCons true (sVar 1) sNil) (gmName 5)
    gDrawB)
  (sSeq (sRev 3)
  (sRet (sVar 3))))))))
section
variable (s0 s1 a b c : Option T) (cells found : List Int) (mixed : Int) (k : Nat)
theorem draw1_ev (hc : cells ≠ []) : gDraw1 [s0, s1, some (.lst (cells.map iT)), some (.lst (found.map iT)), some (iT mixed), some (iT k), a, b, c] = some (.nx [s0, s1, some (.lst (cells.map iT)), some (.lst (found.map iT)), some (iT mixed), some (iT k), some (iT ((k % cells.length : Nat) : Int)), b, c]) := by
  have hl : 0 < cells.length := by cases cells with | nil => exact absurd rfl hc | cons _ _ => simp
  unfold gDraw1
  simp [hl]
theorem draw2_ev (j : Nat) (hj : j < cells.length) : gDraw2 [s0, s1, some (.lst (cells.map iT)), some (.lst (found.map iT)), some (iT mixed), some (iT k), some (iT j), b, c] = some (.nx [s0, s1, some (.lst (cells.map iT)), some (.lst (found.map iT)), some (iT mixed), some (iT k), some (iT j), some (iT cells[j]), c]) := by
  have e1 : atI (cells.map iT) (j : Int) = some (iT cells[j]) := by
    have := atI_get (cells.map iT) j (by simpa using hj)
    simpa using this
  unfold gDraw2
  simp [e1]
theorem add_ev {env : En} {p : Bool} {fa fb : EM Opd} {i j : Int} (a : fa env = some (.ok (.t (iT i)) env)) (b : fb env = some (.ok (.t (iT j)) env)) : sO oAdd (sCons p fa (sCons true fb sNil)) env = some (.ok (.t (iT (i + j))) env) := by
  simp only [sO_ap, sCons_ap, sNil_ap, a, b, Bool.true_or, Opd.stays, Bool.or_true, if_true, oAdd, Opd.rd, T.er]
theorem mod_ev {env : En} {p : Bool} {fa fb : EM Opd} {i j : Int} (a : fa env = some (.ok (.t (iT i)) env)) (b : fb env = some (.ok (.t (iT j)) env)) (h : 0 < j) : sO oMod (sCons p fa (sCons true fb sNil)) env = some (.ok (.t (iT (i % j))) env) := by
  have hd : decide (0 < j) = true := decide_eq_true h
  simp only [sO_ap, sCons_ap, sNil_ap, a, b, Bool.true_or, Opd.stays, Bool.or_true, if_true, oMod, oS, gI, rds, Opd.rd, T.er, hd, D.scal]
theorem int_ev {env : En} {fa : EM Opd} {i : Int} (a : fa env = some (.ok (.t (iT i)) env)) : sO (oS gInt) (sCons true fa sNil) env = some (.ok (.t (iT i)) env) := by
  simp only [sO_ap, sCons_ap, sNil_ap, a, Bool.true_or, if_true, oS, gInt, rds, Opd.rd, T.er, D.scal]
theorem set_ev {env : En} {f : EM Opd} {i : Nat} {d : D} (a : f env = some (.ok (.t (.z d)) env)) (h : i < env.length) : sSet i f env = some (.nx (env.set i (some (.z d)))) := by
  simp only [sSet_ap, a, Opd.take, if_pos h]
theorem draw3_ev (j : Int) (cell : Int) (hm : 0 ≤ mixed ∧ mixed < 2147483647) : gDraw3 [s0, s1, some (.lst (cells.map iT)), some (.lst (found.map iT)), some (iT mixed), some (iT k), some (iT j), some (iT cell), c] =
    some (.nx [s0, s1, some (.lst (cells.map iT)), some (.lst (found.map iT)), some (iT ((mixed * 48271 + cell % 1000003 * 69621 + (k : Int) * 7919 + 11) % 2147483647)), some (iT k), some (iT j), some (iT cell), c]) :=
  set_ev (mod_ev (int_ev (add_ev (add_ev (add_ev (mul_ev rfl rfl (.inr (by decide))) (mul_ev (mod_ev (int_ev rfl) rfl (by decide)) rfl (.inr (by decide)))) (mul_ev rfl rfl (.inr (by decide)))) rfl)) rfl (by decide)) (by simp)
theorem draw4_ev (j : Int) (cell : Int) (hm : 0 ≤ mixed ∧ mixed < 2147483647) : gDraw4 [s0, s1, some (.lst (cells.map iT)), some (.lst (found.map iT)), some (iT mixed), some (iT k), some (iT j), some (iT cell), c] =
    some (.nx [s0, s1, some (.lst (cells.map iT)), some (.lst (found.map iT)), some (iT mixed), some (iT k), some (iT j), some (iT cell), some (iT ((mixed * mixed + 31 * mixed + (k : Int)) % 1000003))]) :=
  set_ev (mod_ev (int_ev (add_ev (add_ev (mul_ev rfl rfl (.inl ⟨by omega, by omega⟩)) (mul_ev rfl rfl (.inl (by decide)))) rfl)) rfl (by decide)) (by simp)
theorem draw5_ev (j : Nat) (hj : j < cells.length) (cell again : Int) (hf : found.length < 10000) : ∃ (cells' : List Int) (x : Int), gDraw5 [s0, s1, some (.lst (cells.map iT)), some (.lst (found.map iT)), some (iT mixed), some (iT k), some (iT j), some (iT cell), some (iT again)] =
    some (.nx [s0, s1, some (.lst (cells'.map iT)), some (.lst ((found ++ [x]).map iT)), some (iT mixed), some (iT k), some (iT j), some (iT cell), some (iT again)]) ∧ cells'.length = cells.length ∧ 0 ≤ x ∧ x < 1000 := by
  have e2 : ixN cells.length (j : Int) = some j := ixN_get cells.length j hj
  have sl : found.length < sizeLine := Nat.lt_trans hf sizeLine_val
  unfold gDraw5
  by_cases hg : (1000000000000000000 : Int) ≤ cell
  · refine ⟨cells.set j (cell / 1000), cell % 1000, ?_, by simp, Int.emod_nonneg _ (by decide), Int.emod_lt_of_pos _ (by decide)⟩
    simp [e2, hg, sl, List.map_set]
  · refine ⟨cells, again % 1000, ?_, rfl, Int.emod_nonneg _ (by decide), Int.emod_lt_of_pos _ (by decide)⟩
    simp [e2, hg, sl]
end
theorem drawB_ev (s0 s1 : Option T) (cells found : List Int) (mixed : Int) (k : Nat) (a b c : Option T) (hc : cells ≠ []) (hm : 0 ≤ mixed ∧ mixed < 2147483647) (hf : found.length < 10000) :
    ∃ (cells' : List Int) (x mixed' : Int) (a' b' c' : Option T), gDrawB [s0, s1, some (.lst (cells.map iT)), some (.lst (found.map iT)), some (iT mixed), some (iT k), a, b, c] = some (.nx [s0, s1, some (.lst (cells'.map iT)), some (.lst ((found ++ [x]).map iT)), some (iT mixed'), some (iT k), a', b', c']) ∧
      cells' ≠ [] ∧ (0 ≤ mixed' ∧ mixed' < 2147483647) ∧ 0 ≤ x ∧ x < 1000 := by
  have hl : 0 < cells.length := by cases cells with | nil => exact absurd rfl hc | cons _ _ => simp
  have hj : k % cells.length < cells.length := Nat.mod_lt _ hl
  have b1 : ∀ z : Int, 0 ≤ z % 2147483647 ∧ z % 2147483647 < 2147483647 := fun z => ⟨Int.emod_nonneg _ (by decide), Int.emod_lt_of_pos _ (by decide)⟩
  generalize hM : (mixed * 48271 + cells[k % cells.length] % 1000003 * 69621 + (k : Int) * 7919 + 11) % 2147483647 = M
  have bM : 0 ≤ M ∧ M < 2147483647 := by rw [← hM]; exact b1 _
  obtain ⟨cells', x, e5, h1, h2, h3⟩ := draw5_ev s0 s1 cells found M k (k % cells.length) hj cells[k % cells.length] ((M * M + 31 * M + (k : Int)) % 1000003) hf
  refine ⟨cells', x, M, some (iT ((k % cells.length : Nat) : Int)), some (iT cells[k % cells.length]), some (iT ((M * M + 31 * M + (k : Int)) % 1000003)), ?_, fun z => by rw [z] at h1; simp at h1; omega, bM, h2, h3⟩
  unfold gDrawB
  rw [sSeq_nx (draw1_ev s0 s1 a b c cells found mixed k hc), sSeq_nx (draw2_ev s0 s1 b c cells found mixed k _ hj), sSeq_nx (draw3_ev s0 s1 c cells found mixed k _ _ hm), hM, sSeq_nx (draw4_ev s0 s1 c cells found M k _ _ bM)]
  exact e5
theorem drawF_ev (s0 s1 : Option T) : ∀ (n : Nat) (k : Nat) (cells found : List Int) (mixed : Int) (i a b c : Option T), cells ≠ [] → (0 ≤ mixed ∧ mixed < 2147483647) → found.length + n < 10000 → (∀ x ∈ found, 0 ≤ x ∧ x < 1000) →
    ∃ (cells' found' : List Int) (mixed' : Int) (i' a' b' c' : Option T), forF (gmName 5) gDrawB (rngD (k : Int) n) [s0, s1, some (.lst (cells.map iT)), some (.lst (found.map iT)), some (iT mixed), i, a, b, c] = some (.nx [s0, s1, some (.lst (cells'.map iT)), some (.lst (found'.map iT)), some (iT mixed'), i', a', b', c']) ∧
      found'.length = found.length + n ∧ ∀ x ∈ found', 0 ≤ x ∧ x < 1000
  | 0, k, cells, found, mixed, i, a, b, c, hc, hm, hf, hx => ⟨cells, found, mixed, i, a, b, c, rfl, rfl, hx⟩
  | n + 1, k, cells, found, mixed, i, a, b, c, hc, hm, hf, hx => by
    obtain ⟨cells1, x, mixed1, a1, b1, c1, e, h1, h2, h3, h4⟩ := drawB_ev s0 s1 cells found mixed k a b c hc hm (by omega)
    obtain ⟨cells2, found2, mixed2, i2, a2, b2, c2, e2, l2, x2⟩ := drawF_ev s0 s1 n (k + 1) cells1 (found ++ [x]) mixed1 (some (iT k)) a1 b1 c1 h1 h2 (by simp; omega) (fun y hy => by
      rcases List.mem_append.mp hy with z | z
      · exact hx y z
      · rw [List.mem_singleton.mp z]; exact ⟨h3, h4⟩)
    refine ⟨cells2, found2, mixed2, i2, a2, b2, c2, ?_, by rw [l2]; simp; omega, x2⟩
    simp only [rngD, forF, gmName_ap, List.length_cons, List.length_nil]
    simp only [List.set_cons_succ, List.set_cons_zero, if_pos (show 5 < 0 + 1 + 1 + 1 + 1 + 1 + 1 + 1 + 1 + 1 by decide), e]
    rw [← e2]
    push_cast
    rfl
theorem inB_62 (n : Nat) (h : n < 1000000) : inB 62 n = true :=
  inB_nat (Int.lt_of_lt_of_le (show (n : Int) < 2 ^ 20 by
    have e : (2 : Int) ^ 20 = 1048576 := by decide
    rw [e]; omega) (by decide))
theorem gRng1_ev (n : Nat) (h : n < 1000000) : gRng1 [.int n] = some (0, n) := by
  unfold gRng1
  simp only [inB_62 n h, if_true, Int.toNat_natCast]
/-- a loop over range(x) -/
theorem forR1_ev {env : En} {s : GM} {g : SM} {f : EM Opd} {n : Nat} (a : f env = some (.ok (.t (iT n)) env)) (h : n < 1000000) : sForR gRng1 (sCons true f sNil) s g env = forF s g (rngD 0 n) env := by
  simp only [sForR_ap, sCons_ap, a, sNil_ap, Bool.true_or, if_true, rds, Opd.rd, T.er, gRng1_ev n h]
theorem draws_go (d : D) (n : Nat) (hn : n < 10000) (cells : List Int) (hc : cells ≠ []) : ∃ (xs : List Int) (e : En), (sSeq (sSet 3 (sTake hLst sNil)) (sSeq (sSet 4 (sC (.int 12345))) (sSeq (sForR gRng1 (sCons true (sVar 1) sNil) (gmName 5) gDrawB) (sSeq (sRev 3) (sRet (sVar 3))))))
      [some (.z d), some (iT n), some (.lst (cells.map iT)), none, none, none, none, none, none] = some (.rt (.lst (xs.map iT)) e) ∧ xs.length = n ∧ ∀ x ∈ xs, 0 ≤ x ∧ x < 1000 := by
  obtain ⟨cells', found', mixed', i', a', b', c', e, l, bd⟩ := drawF_ev (some (.z d)) (some (iT n)) n 0 cells [] 12345 none none none none hc (by decide) (by simpa using hn) (by simp)
  refine ⟨found'.reverse, [some (.z d), some (iT n), some (.lst (cells'.map iT)), none, some (iT mixed'), i', a', b', c'], ?_, by simpa using l, fun x hx => bd x (by simpa using hx)⟩
  have e1 : (sSet 3 (sTake hLst sNil)) [some (.z d), some (iT n), some (.lst (cells.map iT)), none, none, none, none, none, none] = some (.nx [some (.z d), some (iT n), some (.lst (cells.map iT)), some (.lst []), none, none, none, none, none]) := by
    simp only [sSet_ap, sTake_ap, sNil_ap, takes, hLst, List.length_nil, Nat.zero_le, if_true, Opd.take]
    rfl
  have e2 : (sSet 4 (sC (.int 12345))) [some (.z d), some (iT n), some (.lst (cells.map iT)), some (.lst []), none, none, none, none, none] = some (.nx [some (.z d), some (iT n), some (.lst (cells.map iT)), some (.lst (([] : List Int).map iT)), some (iT 12345), none, none, none, none]) := rfl
  have e3 : (sForR gRng1 (sCons true (sVar 1) sNil) (gmName 5) gDrawB) [some (.z d), some (iT n), some (.lst (cells.map iT)), some (.lst (([] : List Int).map iT)), some (iT 12345), none, none, none, none] = some (.nx [some (.z d), some (iT n), some (.lst (cells'.map iT)), some (.lst (found'.map iT)), some (iT mixed'), i', a', b', c']) := by
    rw [forR1_ev (n := n) rfl (by omega)]
    exact e
  have e4 : (sRev 3) [some (.z d), some (iT n), some (.lst (cells'.map iT)), some (.lst (found'.map iT)), some (iT mixed'), i', a', b', c'] = some (.nx [some (.z d), some (iT n), some (.lst (cells'.map iT)), some (.lst (found'.reverse.map iT)), some (iT mixed'), i', a', b', c']) := by
    rw [List.map_reverse]
    rfl
  rw [sSeq_nx e1, sSeq_nx e2, sSeq_nx e3, sSeq_nx e4]
  rfl
theorem draws_ev (ns : List Int) (n : Nat) (hn : n < 10000) : ∃ xs : List Int, fnOf 2 9 [] gDraws [.z (.kls (ns.map D.int)), iT n] = some (.rt (.lst (xs.map iT)) []) ∧ xs.length = n ∧ ∀ x ∈ xs, 0 ≤ x ∧ x < 1000 := by
  have key : ∃ (xs : List Int) (e : En), gDraws [some (.z (.kls (ns.map D.int))), some (iT n), none, none, none, none, none, none, none] = some (.rt (.lst (xs.map iT)) e) ∧ xs.length = n ∧ ∀ x ∈ xs, 0 ≤ x ∧ x < 1000 := by
    have e1 : (sSet 2 (sO oListOf (sCons true (sVar 0) sNil))) [some (.z (.kls (ns.map D.int))), some (iT n), none, none, none, none, none, none, none] = some (.nx [some (.z (.kls (ns.map D.int))), some (iT n), some (.lst (ns.map iT)), none, none, none, none, none, none]) := by
      simp
    unfold gDraws
    rw [sSeq_nx e1]
    cases ns with
    | nil =>
      have e2 : (sIfS (sTb (sO (oS gEq) (sCons true (sO (oS gLen) (sCons true (sVar 2) sNil)) (sCons true (sC (.int 0)) sNil)))) (sSet 2 (sO oLst (sCons true (sC (.int 7)) sNil))) sNext) [some (.z (.kls (([] : List Int).map D.int))), some (iT n), some (.lst (([] : List Int).map iT)), none, none, none, none, none, none] = some (.nx [some (.z (.kls (([] : List Int).map D.int))), some (iT n), some (.lst (([7] : List Int).map iT)), none, none, none, none, none, none]) := by
        have h1 : 1 ≤ sizeLine := Nat.le_trans (by decide : 1 ≤ 10000) (Nat.le_of_lt sizeLine_val)
        simp [h1]
      rw [sSeq_nx e2]
      exact draws_go _ n hn [7] (by simp)
    | cons y ys =>
      have e2 : (sIfS (sTb (sO (oS gEq) (sCons true (sO (oS gLen) (sCons true (sVar 2) sNil)) (sCons true (sC (.int 0)) sNil)))) (sSet 2 (sO oLst (sCons true (sC (.int 7)) sNil))) sNext) [some (.z (.kls ((y :: ys).map D.int))), some (iT n), some (.lst ((y :: ys).map iT)), none, none, none, none, none, none] = some (.nx [some (.z (.kls ((y :: ys).map D.int))), some (iT n), some (.lst ((y :: ys).map iT)), none, none, none, none, none, none]) := by
        have : ¬ ((ys.length : Int) + 1 = 0) := by omega
        simp [this]
      rw [sSeq_nx e2]
      exact draws_go _ n hn (y :: ys) (by simp)
  obtain ⟨xs, e, h1, h2, h3⟩ := key
  refine ⟨xs, ?_, h2, h3⟩
  rw [fnOf_ap, if_pos (show ([T.z (.kls (ns.map D.int)), iT n] : List T).length = 2 from rfl)]
  show (match gDraws [some (.z (.kls (ns.map D.int))), some (iT n), none, none, none, none, none, none, none] with
    | some (.nx e) => _ | some (.rt t e) => _ | some (.ex x e) => _ | _ => _) = _
  rw [h1]
  rfl
end DL

/-! DL17: loops by invariants. -/
namespace DL
open PySem PySem.Spec PyProof.Rows L2
theorem fn_rt {n m : Nat} {g : SM} {ts : List T} {t : T} {e : En} (hl : ts.length = n) (h : g (ts.map some ++ List.replicate (m - n) none) = some (.rt t e)) : fnOf n m [] g ts = some (.rt t []) := by
  rw [fnOf_ap, if_pos hl, h]
  rfl
theorem fn_io {n m : Nat} {g : SM} {ts : List T} {t : T} {e : En} {io : List Bool} {fin : List T} (hl : ts.length = n) (h : g (ts.map some ++ List.replicate (m - n) none) = some (.rt t e)) (hf : fins io e = some fin) : fnOf n m io g ts = some (.rt t fin) := by
  rw [fnOf_ap, if_pos hl, h]
  simp only [hf]
/-- a loop that runs through -/
theorem forF_from {s : GM} {g : SM} (I : List D → En → Prop) : ∀ (ds p : List D) (env : En), I p env → (∀ p' d q env, p ++ ds = p' ++ d :: q → I p' env → ∃ e1 e2, s (.z d) env = some e1 ∧ (g e1 = some (.nx e2) ∨ g e1 = some (.ct e2)) ∧ I (p' ++ [d]) e2) → ∃ e, forF s g ds env = some (.nx e) ∧ I (p ++ ds) e
  | [], p, env, h0, _ => ⟨env, rfl, by simpa using h0⟩
  | d :: ds, p, env, h0, h => by
    obtain ⟨e1, e2, h1, h2, h3⟩ := h p d ds env rfl h0
    obtain ⟨e, h4, h5⟩ := forF_from I ds (p ++ [d]) e2 h3 fun p' d' q env' x => h p' d' q env' (by rw [← x]; simp)
    refine ⟨e, ?_, by simpa using h5⟩
    unfold forF
    rw [h1]
    rcases h2 with h2 | h2
    · simp only [h2]; exact h4
    · simp only [h2]; exact h4
theorem forF_inv {s : GM} {g : SM} (I : List D → En → Prop) {ds : List D} {env : En} (h0 : I [] env) (h : ∀ p d q env, ds = p ++ d :: q → I p env → ∃ e1 e2, s (.z d) env = some e1 ∧ (g e1 = some (.nx e2) ∨ g e1 = some (.ct e2)) ∧ I (p ++ [d]) e2) : ∃ e, forF s g ds env = some (.nx e) ∧ I ds e := by
  simpa using forF_from I ds [] env h0 (by simpa using h)
/-- .. nothing kept of what was passed -/
theorem forF_all {s : GM} {g : SM} (I : En → Prop) {ds : List D} {env : En} (h0 : I env) (h : ∀ d ∈ ds, ∀ env, I env → ∃ e1 e2, s (.z d) env = some e1 ∧ (g e1 = some (.nx e2) ∨ g e1 = some (.ct e2)) ∧ I e2) : ∃ e, forF s g ds env = some (.nx e) ∧ I e :=
  forF_inv (fun _ e => I e) h0 fun p d q env x i => h d (by rw [x]; simp) env i
theorem compF_from {own : List Nat} {s : GM} {fc : EM Bool} {fe : EM Opd} (I : List D → List T → En → Prop) : ∀ (ds p : List D) (acc : List T) (env : En), acc.length ≤ p.length → (p ++ ds).length < 10000 → I p acc env →
    (∀ p' d q acc env, p ++ ds = p' ++ d :: q → acc.length ≤ p'.length → I p' acc env → ∃ e1, s (.z d) env = some e1 ∧ ((∃ e2 o e3 t e4, fc e1 = some (.ok true e2) ∧ fe e2 = some (.ok o e3) ∧ o.take e3 = some (t, e4) ∧ I (p' ++ [d]) (acc ++ [t]) (wipeE e4 own)) ∨ ∃ e2, fc e1 = some (.ok false e2) ∧ I (p' ++ [d]) acc (wipeE e2 own))) →
    ∃ ts e, compF own s fc fe ds env acc = some (ts, e) ∧ I (p ++ ds) ts e
  | [], p, acc, env, _, _, h0, _ => ⟨acc, env, rfl, by simpa using h0⟩
  | d :: ds, p, acc, env, hl, hs, h0, h => by
    have hlen : acc.length < sizeLine := by
      have := sizeLine_val
      simp at hs
      omega
    obtain ⟨e1, h1, h2⟩ := h p d ds acc env rfl hl h0
    rcases h2 with ⟨e2, o, e3, t, e4, a1, a2, a3, a4⟩ | ⟨e2, a1, a2⟩
    · obtain ⟨ts, e, h4, h5⟩ := compF_from I ds (p ++ [d]) (acc ++ [t]) (wipeE e4 own) (by simpa using hl) (by simpa using hs) a4 fun p' d' q acc' env' x => h p' d' q acc' env' (by rw [← x]; simp)
      refine ⟨ts, e, ?_, by simpa using h5⟩
      unfold compF
      simp only [h1, a1, a2, a3, if_pos hlen]
      exact h4
    · obtain ⟨ts, e, h4, h5⟩ := compF_from I ds (p ++ [d]) acc (wipeE e2 own) (by simp; omega) (by simpa using hs) a2 fun p' d' q acc' env' x => h p' d' q acc' env' (by rw [← x]; simp)
      refine ⟨ts, e, ?_, by simpa using h5⟩
      unfold compF
      simp only [h1, a1]
      exact h4
theorem compF_inv {own : List Nat} {s : GM} {fc : EM Bool} {fe : EM Opd} (I : List D → List T → En → Prop) {ds : List D} {env : En} (hs : ds.length < 10000) (h0 : I [] [] env)
    (h : ∀ p d q acc env, ds = p ++ d :: q → acc.length ≤ p.length → I p acc env → ∃ e1, s (.z d) env = some e1 ∧ ((∃ e2 o e3 t e4, fc e1 = some (.ok true e2) ∧ fe e2 = some (.ok o e3) ∧ o.take e3 = some (t, e4) ∧ I (p ++ [d]) (acc ++ [t]) (wipeE e4 own)) ∨ ∃ e2, fc e1 = some (.ok false e2) ∧ I (p ++ [d]) acc (wipeE e2 own))) :
    ∃ ts e, compF own s fc fe ds env [] = some (ts, e) ∧ I ds ts e := by
  simpa using compF_from I ds [] [] env (by simp) (by simpa using hs) h0 (by simpa using h)
/-- a comprehension that maps each item, all else staying -/
theorem compF_map {own : List Nat} {s : GM} {fe : EM Opd} {α : Type} (f : α → D) (h : α → T) {env : En} (xs : List α) (hs : xs.length < 10000)
    (step : ∀ x ∈ xs, ∃ e1 o e3 e4, s (.z (f x)) env = some e1 ∧ fe e1 = some (.ok o e3) ∧ o.take e3 = some (h x, e4) ∧ wipeE e4 own = env) : compF own s sYes fe (xs.map f) env [] = some (xs.map h, env) := by
  have go : ∀ (xs : List α) (acc : List T), acc.length + xs.length < 10000 → (∀ x ∈ xs, ∃ e1 o e3 e4, s (.z (f x)) env = some e1 ∧ fe e1 = some (.ok o e3) ∧ o.take e3 = some (h x, e4) ∧ wipeE e4 own = env) → compF own s sYes fe (xs.map f) env acc = some (acc ++ xs.map h, env) := by
    intro xs
    induction xs with
    | nil => intro acc _ _; simp [compF]
    | cons x xs ih =>
      intro acc hl st
      obtain ⟨e1, o, e3, e4, h1, h2, h3, h4⟩ := st x List.mem_cons_self
      have hlen : acc.length < sizeLine := by
        have := sizeLine_val
        simp at hl
        omega
      have := ih (acc ++ [h x]) (by simp at hl ⊢; omega) fun y hy => st y (List.mem_cons_of_mem _ hy)
      rw [List.map_cons]
      unfold compF
      simp only [h1, sYes_ap, h2, h3, if_pos hlen, h4, this]
      simp
  simpa using go xs [] (by simpa using hs) step
theorem rngD_map (lo : Int) (n : Nat) : rngD lo n = (List.range n).map fun i : Nat => D.int (lo + (i : Int)) := by
  induction n generalizing lo with
  | zero => rfl
  | succ n ih =>
    rw [List.range_succ_eq_map, List.map_cons, List.map_map, rngD, ih (lo + 1)]
    simp only [Function.comp_def, Int.natCast_zero, Int.add_zero, List.cons.injEq, true_and]
    apply List.map_congr_left
    intro i _
    congr 1
    push_cast
    omega
end DL

/-! DL18: unary minus, a global's number. -/
namespace DL
open PySem PySem.Spec PyProof.Rows L2
@[simp] def gNeg : List D → Option D
  | [.int i] => some (.int (-i))
  | _ => none
theorem link_neg {K : PySem.W.Frag} : Link K (oS gNeg) (fun xs H Q => (rU fun i => .int (-i)) (xs.getD 0 .non) H Q) := by
  refine link_S fun H xs ds d Q r e q => ?_
  unfold gNeg at e
  split at e
  · obtain ⟨x, rfl, r1⟩ := r.one
    cases e
    have := r1.v_int; subst this
    exact ⟨_, rfl, q⟩
  · cases e
section
variable {X : Cx} {W : WX} {a : Expr} {pos : Pos} {p1 : Bool} {fa : EM Opd} {x : Str}
theorem pq_neg (ha : PQ X W p1 a fa) : PQ X W p1 (.UnaryOp .USub a pos) (sO (oS gNeg) (sCons true fa sNil)) := pq_un un_neg link_neg ha
theorem pq_gi {p : Bool} {i : Int} (hg : Gl X x) (hm : ∃ t, X.mg x = some (.int i t)) (hd : (x == ("__debug__" : Str)) = false := by decide) : PQ X W p (.Name x pos) (sC (.int i)) := by
  obtain ⟨t, hm⟩ := hm
  exact pq_c (pe_glob (v := .int i) hg hm ⟨t, rfl⟩ hd) fun _ _ _ => .int
end
end DL

namespace DL
open PySem PySem.Spec PyProof.Rows L2
/-! ### covering -/
def cov : List Int → List Int → Bool
  | a :: as, b :: bs => decide (b ≤ a) && cov as bs
  | _, _ => true
theorem cov_refl : ∀ a, cov a a = true
  | [] => rfl
  | a :: as => by simp [cov, cov_refl as]
theorem cov_trans : ∀ {a b c : List Int}, a.length = b.length → b.length = c.length → cov a b = true → cov b c = true → cov a c = true
  | [], [], [], _, _, _, _ => rfl
  | a :: as, b :: bs, c :: cs, h1, h2, h3, h4 => by
    simp only [cov, Bool.and_eq_true, decide_eq_true_eq] at h3 h4 ⊢
    exact ⟨Int.le_trans h4.1 h3.1, cov_trans (by simpa using h1) (by simpa using h2) h3.2 h4.2⟩
theorem cov_lt : ∀ {a b : List Int}, a.length = b.length → cov a b = true → b ≠ a → ltI b a = true
  | [], [], _, _, h => absurd rfl h
  | a :: as, b :: bs, h1, h3, h4 => by
    simp only [cov, Bool.and_eq_true, decide_eq_true_eq] at h3
    rw [ltI_cons]
    by_cases e : b = a
    · subst e
      exact .inr ⟨rfl, cov_lt (by simpa using h1) h3.2 fun z => h4 (by rw [z])⟩
    · exact .inl (by omega)
theorem cov_drop (a b : List Int) (k : Nat) (h : k < a.length) (h2 : k < b.length) : cov (a.drop k) (b.drop k) = (decide (b[k] ≤ a[k]) && cov (a.drop (k + 1)) (b.drop (k + 1))) := by
  rw [List.drop_eq_getElem_cons h, List.drop_eq_getElem_cons h2]
  rfl
def gCovB : SM := sIfS (sTb (sO oLt (sCons true (sO oIx (sCons true (sVar 0) (sCons true (sVar 2) sNil))) (sCons true (sO oIx (sCons true (sVar 1) (sCons true (sVar 2) sNil))) sNil))))
      (sRet (sC (.bl false)))
      sNext
noncomputable def gCov : SM := sSeq (sForR gRng1 (sCons true (sO (oS gLen) (sCons true (sVar 0) sNil)) sNil) (gmName 2) gCovB) (sRet (sC (.bl true)))
@[simp] theorem atI_ints (a : List Int) (k : Nat) (h : k < a.length) : atI (a.map D.int) (k : Int) = some (.int a[k]) := by
  rw [atI_get _ _ (by simpa using h)]
  simp
theorem covB_ev (a b : List Int) (k : Nat) (h : k < a.length) (h2 : k < b.length) : gCovB [some (.z (dT a)), some (.z (dT b)), some (iT k)] = if b[k] ≤ a[k] then some (.nx [some (.z (dT a)), some (.z (dT b)), some (iT k)]) else some (.rt (bT false) [some (.z (dT a)), some (.z (dT b)), some (iT k)]) := by
  unfold gCovB
  by_cases hc : b[k] ≤ a[k]
  · have hc' : ¬ a[k] < b[k] := by omega
    simp [h, h2, hc, hc']
  · have hc' : a[k] < b[k] := by omega
    simp [h, h2, hc, hc']
theorem cov_loop (a b : List Int) (hl : a.length = b.length) : ∀ (n k : Nat) (o : Option T), k + n = a.length →
    ∃ e o', forF (gmName 2) gCovB (rngD k n) [some (.z (dT a)), some (.z (dT b)), o] = if cov (a.drop k) (b.drop k) = true then some (.nx [some (.z (dT a)), some (.z (dT b)), o']) else some (.rt (bT false) e)
  | 0, k, o, h => by
    have e1 : a.drop k = [] := List.drop_eq_nil_of_le (by omega)
    refine ⟨[], o, ?_⟩
    rw [e1]
    simp [rngD, forF, cov]
  | n + 1, k, o, h => by
    have hk : k < a.length := by omega
    have hk2 : k < b.length := by omega
    obtain ⟨e, o', ih⟩ := cov_loop a b hl n (k + 1) (some (iT k)) (by omega)
    have st : forF (gmName 2) gCovB (rngD k (n + 1)) [some (.z (dT a)), some (.z (dT b)), o] = (match gCovB [some (.z (dT a)), some (.z (dT b)), some (iT k)] with
      | some (.nx e) => forF (gmName 2) gCovB (rngD ((k : Int) + 1) n) e
      | some (.ct e) => forF (gmName 2) gCovB (rngD ((k : Int) + 1) n) e
      | some (.bk e) => some (.nx e)
      | o => o) := rfl
    rw [st, covB_ev a b k hk hk2, cov_drop a b k hk hk2]
    by_cases hc : b[k] ≤ a[k]
    · refine ⟨e, o', ?_⟩
      rw [if_pos hc]
      have : decide (b[k] ≤ a[k]) = true := decide_eq_true hc
      rw [this, Bool.true_and]
      exact ih
    · refine ⟨[some (.z (dT a)), some (.z (dT b)), some (iT k)], o', ?_⟩
      rw [if_neg hc]
      have : decide (b[k] ≤ a[k]) = false := decide_eq_false hc
      rw [this, Bool.false_and]
      rfl
theorem cov_ev (a b : List Int) (hl : a.length = b.length) (h : a.length < 1000000) : fnOf 2 3 [] gCov [.z (dT a), .z (dT b)] = some (.rt (bT (cov a b)) []) := by
  obtain ⟨e, o', ih⟩ := cov_loop a b hl a.length 0 none (by omega)
  have e1 : (sForR gRng1 (sCons true (sO (oS gLen) (sCons true (sVar 0) sNil)) sNil) (gmName 2) gCovB) [some (.z (dT a)), some (.z (dT b)), none] = if cov a b = true then some (.nx [some (.z (dT a)), some (.z (dT b)), o']) else some (.rt (bT false) e) := by
    rw [forR1_ev (n := a.length) (by simp) h]
    exact ih
  cases hc : cov a b
  · rw [hc] at e1
    exact fn_rt rfl (sSeq_rt e1)
  · rw [hc] at e1
    exact fn_rt rfl (sSeq_nx e1)
/-! ### inside -/
def ins (ms : List (List Int)) (x : List Int) : Bool := ms.any fun m => cov x m
abbrev LT (ms : List (List Int)) : D := .lst (ms.map dT)
noncomputable def gInsB (F : FSem) : SM := sIfS (sTr (sCallL 2 F (sCons true (sVar 1) (sCons true (sVar 2) sNil)))) (sRet (sC (.bl true))) sNext
noncomputable def gIns (F : FSem) : SM := sSeq (sForN 0 (gmName 2) (gInsB F)) (sRet (sC (.bl false)))
theorem insB_ev (d : D) (x m : List Int) (hl : x.length = m.length) (h : x.length < 1000000) : gInsB (fnOf 2 3 [] gCov) [some (.z d), some (.z (dT x)), some (.z (dT m))] = if cov x m = true then some (.rt (bT true) [some (.z d), some (.z (dT x)), some (.z (dT m))]) else some (.nx [some (.z d), some (.z (dT x)), some (.z (dT m))]) := by
  unfold gInsB
  have hF := cov_ev x m hl h
  cases hc : cov x m <;> rw [hc] at hF <;> simp [hF]
theorem ins_loop (d : D) (x : List Int) (hx : x.length < 1000000) : ∀ (ms : List (List Int)) (o : Option T), (∀ m ∈ ms, x.length = m.length) →
    ∃ e, forF (gmName 2) (gInsB (fnOf 2 3 [] gCov)) (ms.map dT) [some (.z d), some (.z (dT x)), o] = if ins ms x = true then some (.rt (bT true) e) else some (.nx e)
  | [], o, h => ⟨_, rfl⟩
  | m :: ms, o, h => by
    have st : forF (gmName 2) (gInsB (fnOf 2 3 [] gCov)) ((m :: ms).map dT) [some (.z d), some (.z (dT x)), o] = (match gInsB (fnOf 2 3 [] gCov) [some (.z d), some (.z (dT x)), some (.z (dT m))] with
      | some (.nx e) => forF (gmName 2) (gInsB (fnOf 2 3 [] gCov)) (ms.map dT) e
      | some (.ct e) => forF (gmName 2) (gInsB (fnOf 2 3 [] gCov)) (ms.map dT) e
      | some (.bk e) => some (.nx e)
      | o => o) := rfl
    rw [st, insB_ev d x m (h m List.mem_cons_self) hx]
    have e2 : ins (m :: ms) x = (cov x m || ins ms x) := rfl
    rw [e2]
    cases hc : cov x m
    · obtain ⟨e, ih⟩ := ins_loop d x hx ms (some (.z (dT m))) fun z hz => h z (List.mem_cons_of_mem _ hz)
      exact ⟨e, ih⟩
    · exact ⟨_, rfl⟩
theorem ins_ev (ms : List (List Int)) (x : List Int) (h : ∀ m ∈ ms, x.length = m.length) (hx : x.length < 1000000) : fnOf 2 3 [] (gIns (fnOf 2 3 [] gCov)) [.z (LT ms), .z (dT x)] = some (.rt (bT (ins ms x)) []) := by
  obtain ⟨e, ih⟩ := ins_loop (LT ms) x hx ms none h
  have e1 : (sForN 0 (gmName 2) (gInsB (fnOf 2 3 [] gCov))) [some (.z (LT ms)), some (.z (dT x)), none] = if ins ms x = true then some (.rt (bT true) e) else some (.nx e) := ih
  cases hc : ins ms x
  · rw [hc] at e1
    exact fn_rt rfl (sSeq_nx e1)
  · rw [hc] at e1
    exact fn_rt rfl (sSeq_rt e1)
end DL

namespace DL
open PySem PySem.Spec PyProof.Rows L2
/-! ### numbers -/
noncomputable def gIsInt : SM := sRet (sAndV (sO (oS (gIsi "int")) (sCons true (sVar 0) sNil)) (sO (oS gNot) (sCons true (sO (oS (gIsi "bool")) (sCons true (sVar 0) sNil)) sNil)))
theorem isInt_ev (i : Int) : fnOf 1 1 [] gIsInt [iT i] = some (.rt (bT true) []) := by
  refine fn_rt (e := [some (iT i)]) rfl ?_
  unfold gIsInt
  simp
noncomputable def gNumB (F : FSem) : SM := sIfS (sOr (sNot (sTr (sCallL 1 F (sCons true (sVar 3) sNil)))) (sTb (sO oLt (sCons true (sVar 3) (sCons true (sVar 2) sNil))))) (sRet (sC (.bl false))) sNext
noncomputable def gNum (F : FSem) : SM :=
  (sSeq (sIfS (sOr (sNot (sTr (sO (oS (gIsi "tuple")) (sCons true (sVar 0) sNil)))) (sTb (sO (oS gNe) (sCons true (sO (oS gLen) (sCons true (sVar 0) sNil)) (sCons true (sVar 1) sNil)))))
    (sRet (sC (.bl false)))
    sNext)
  (sSeq (sForN 0 (gmName 3) (gNumB F))
  (sRet (sC (.bl true)))))
theorem num_ev (a : List Int) (n : Nat) (low : Int) (hl : a.length = n) (hb : ∀ x ∈ a, low ≤ x) : fnOf 3 4 [] (gNum (fnOf 1 1 [] gIsInt)) [.z (dT a), iT n, iT low] = some (.rt (bT true) []) := by
  obtain ⟨e, h1, h2⟩ := forF_all (s := gmName 3) (g := gNumB (fnOf 1 1 [] gIsInt)) (ds := a.map D.int) (fun e => ∃ o, e = [some (.z (dT a)), some (iT n), some (iT low), o]) (env := [some (.z (dT a)), some (iT n), some (iT low), none]) ⟨_, rfl⟩ fun d hd env i => by
    obtain ⟨o, rfl⟩ := i
    obtain ⟨x, hx, rfl⟩ := List.mem_map.mp hd
    have hF := isInt_ev x
    have hx' : ¬ x < low := by have := hb x hx; omega
    refine ⟨[some (.z (dT a)), some (iT n), some (iT low), some (iT x)], [some (.z (dT a)), some (iT n), some (iT low), some (iT x)], rfl, .inl ?_, some (iT x), rfl⟩
    unfold gNumB
    simp [hF, hx']
  obtain ⟨o, rfl⟩ := h2
  refine fn_rt (e := [some (.z (dT a)), some (iT n), some (iT low), o]) rfl ?_
  have e1 : (sIfS (sOr (sNot (sTr (sO (oS (gIsi "tuple")) (sCons true (sVar 0) sNil)))) (sTb (sO (oS gNe) (sCons true (sO (oS gLen) (sCons true (sVar 0) sNil)) (sCons true (sVar 1) sNil)))))
    (sRet (sC (.bl false)))
    sNext) [some (.z (dT a)), some (iT n), some (iT low), none] = some (.nx [some (.z (dT a)), some (iT n), some (iT low), none]) := by
    simp [hl]
  have e2 : (sForN 0 (gmName 3) (gNumB (fnOf 1 1 [] gIsInt))) [some (.z (dT a)), some (iT n), some (iT low), none] = some (.nx [some (.z (dT a)), some (iT n), some (iT low), o]) := h1
  exact (sSeq_nx e1).trans ((sSeq_nx e2).trans rfl)
noncomputable def gAllB (F : FSem) : SM := sIfS (sNot (sTr (sCallL 3 F (sCons true (sVar 3) (sCons true (sVar 1) (sCons true (sVar 2) sNil)))))) (sRet (sC (.bl false))) sNext
noncomputable def gAll (F : FSem) : SM :=
  (sSeq (sIfS (sNot (sTr (sO (oS (gIsi "list")) (sCons true (sVar 0) sNil)))) (sRet (sC (.bl false))) sNext)
  (sSeq (sForN 0 (gmName 3) (gAllB F))
  (sRet (sC (.bl true)))))
noncomputable abbrev FNum : FSem := fnOf 3 4 [] (gNum (fnOf 1 1 [] gIsInt))
theorem all_ev (ms : List (List Int)) (n : Nat) (low : Int) (hl : ∀ m ∈ ms, m.length = n ∧ ∀ x ∈ m, low ≤ x) : fnOf 3 4 [] (gAll FNum) [.z (LT ms), iT n, iT low] = some (.rt (bT true) []) := by
  obtain ⟨e, h1, h2⟩ := forF_all (s := gmName 3) (g := gAllB FNum) (ds := ms.map dT) (fun e => ∃ o, e = [some (.z (LT ms)), some (iT n), some (iT low), o]) (env := [some (.z (LT ms)), some (iT n), some (iT low), none]) ⟨_, rfl⟩ fun d hd env i => by
    obtain ⟨o, rfl⟩ := i
    obtain ⟨x, hx, rfl⟩ := List.mem_map.mp hd
    have hF := num_ev x n low (hl x hx).1 (hl x hx).2
    refine ⟨[some (.z (LT ms)), some (iT n), some (iT low), some (.z (dT x))], [some (.z (LT ms)), some (iT n), some (iT low), some (.z (dT x))], rfl, .inl ?_, some (.z (dT x)), rfl⟩
    unfold gAllB
    simp [hF]
  obtain ⟨o, rfl⟩ := h2
  refine fn_rt (e := [some (.z (LT ms)), some (iT n), some (iT low), o]) rfl ?_
  have e1 : (sIfS (sNot (sTr (sO (oS (gIsi "list")) (sCons true (sVar 0) sNil)))) (sRet (sC (.bl false))) sNext) [some (.z (LT ms)), some (iT n), some (iT low), none] = some (.nx [some (.z (LT ms)), some (iT n), some (iT low), none]) := by
    simp
  have e2 : (sForN 0 (gmName 3) (gAllB FNum)) [some (.z (LT ms)), some (iT n), some (iT low), none] = some (.nx [some (.z (LT ms)), some (iT n), some (iT low), o]) := h1
  exact (sSeq_nx e1).trans ((sSeq_nx e2).trans rfl)
/-! ### markings drawn -/
noncomputable abbrev FTake : FSem := fnOf 2 2 [true] gTake
noncomputable def gMark (F : FSem) : SM :=
  (sRet (sO oTupOf (sCons true (sLcR [3] gRng1 (sCons true (sVar 1) sNil) (gmName 3) sYes (sCallT 2 [true] F (sCons true (sVar 0) (sCons true (sO oAdd (sCons true (sVar 2) (sCons true (sC (.int 1)) sNil))) sNil)))) sNil)))
/-- draws of ints between 0 and most -/
def Drawn (most : Int) (v : List Int) : Prop := ∀ x ∈ v, 0 ≤ x ∧ x ≤ most
theorem mark_comp (n : Nat) (most : Int) (hm : 0 ≤ most) (hn : n < 10000) (xs : List Int) : ∃ (vs xs' : List Int), compF [3] (gmName 3) sYes (sCallT 2 [true] FTake (sCons true (sVar 0) (sCons true (sO oAdd (sCons true (sVar 2) (sCons true (sC (.int 1)) sNil))) sNil))) (rngD 0 n) [some (.lst (xs.map iT)), some (iT n), some (iT most), none] [] = some (vs.map iT, [some (.lst (xs'.map iT)), some (iT n), some (iT most), none]) ∧ vs.length = n ∧ Drawn most vs := by
  obtain ⟨ts, e, h1, vs, xs', rfl, rfl, h2, h3⟩ := compF_inv (own := [3]) (s := gmName 3) (fc := sYes) (fe := sCallT 2 [true] FTake (sCons true (sVar 0) (sCons true (sO oAdd (sCons true (sVar 2) (sCons true (sC (.int 1)) sNil))) sNil)))
    (fun p acc env => ∃ vs xs' : List Int, acc = vs.map iT ∧ env = [some (.lst (xs'.map iT)), some (iT n), some (iT most), none] ∧ vs.length = p.length ∧ Drawn most vs) (ds := rngD 0 n) (env := [some (.lst (xs.map iT)), some (iT n), some (iT most), none]) (by rw [rngD_length]; exact hn) ⟨[], xs, rfl, rfl, rfl, fun _ h => nomatch h⟩ fun p d q acc env _ _ i => by
      obtain ⟨vs, xs', rfl, rfl, hl, hd⟩ := i
      have hF := take_ev xs' (most + 1) (by omega)
      have hb := dtake_bd xs' (n := most + 1) (by omega)
      refine ⟨[some (.lst (xs'.map iT)), some (iT n), some (iT most), some (.z d)], rfl, .inl ⟨_, .t (iT (dtake xs' (most + 1)).1), [some (.lst ((dtake xs' (most + 1)).2.map iT)), some (iT n), some (iT most), some (.z d)], iT (dtake xs' (most + 1)).1, _, rfl, ?_, rfl, vs ++ [(dtake xs' (most + 1)).1], (dtake xs' (most + 1)).2, by simp, rfl, by simp [hl], ?_⟩⟩
      · simp [hF, FTake]
      · intro x hx
        rcases List.mem_append.mp hx with z | z
        · exact hd x z
        · rw [List.mem_singleton.mp z]; omega
  exact ⟨vs, xs', h1, by rw [h2, rngD_length], h3⟩
theorem mark_ev (n : Nat) (most : Int) (hm : 0 ≤ most) (hn : n < 10000) (xs : List Int) : ∃ (vs xs' : List Int), fnOf 3 4 [true] (gMark FTake) [.lst (xs.map iT), iT n, iT most] = some (.rt (.z (dT vs)) [.lst (xs'.map iT)]) ∧ vs.length = n ∧ Drawn most vs := by
  obtain ⟨vs, xs', h1, h2, h3⟩ := mark_comp n most hm hn xs
  refine ⟨vs, xs', fn_io (e := [some (.lst (xs'.map iT)), some (iT n), some (iT most), none]) rfl ?_ rfl, h2, h3⟩
  unfold gMark
  have hg := gRng1_ev n (by omega)
  simp [-gRng1, hg, h1]
noncomputable def gMarks (F : FSem) : SM :=
  (sRet (sLcR [4] gRng1 (sCons true (sVar 2) sNil) (gmName 4) sYes (sCallT 3 [true] F (sCons true (sVar 0) (sCons true (sVar 1) (sCons true (sVar 3) sNil))))))
noncomputable abbrev FMark : FSem := fnOf 3 4 [true] (gMark FTake)
theorem marks_ev (n k : Nat) (most : Int) (hm : 0 ≤ most) (hn : n < 10000) (hk : k < 10000) (xs : List Int) : ∃ (vs : List (List Int)) (xs' : List Int), fnOf 4 5 [true] (gMarks FMark) [.lst (xs.map iT), iT n, iT k, iT most] = some (.rt (.lst (vs.map fun v => .z (dT v))) [.lst (xs'.map iT)]) ∧ vs.length = k ∧ ∀ v ∈ vs, v.length = n ∧ Drawn most v := by
  obtain ⟨ts, e, h1, vs, xs', rfl, rfl, h2, h3⟩ := compF_inv (own := [4]) (s := gmName 4) (fc := sYes) (fe := (sCallT 3 [true] FMark (sCons true (sVar 0) (sCons true (sVar 1) (sCons true (sVar 3) sNil)))))
    (fun p acc env => ∃ (vs : List (List Int)) (xs' : List Int), acc = vs.map (fun v => T.z (dT v)) ∧ env = [some (.lst (xs'.map iT)), some (iT n), some (iT k), some (iT most), none] ∧ vs.length = p.length ∧ ∀ v ∈ vs, v.length = n ∧ Drawn most v) (ds := rngD 0 k) (env := [some (.lst (xs.map iT)), some (iT n), some (iT k), some (iT most), none]) (by rw [rngD_length]; exact hk) ⟨[], xs, rfl, rfl, rfl, fun _ h => nomatch h⟩ fun p d q acc env _ _ i => by
      obtain ⟨vs, xs', rfl, rfl, hl, hd⟩ := i
      obtain ⟨v, ys, hF, b1, b2⟩ := mark_ev n most hm hn xs'
      refine ⟨[some (.lst (xs'.map iT)), some (iT n), some (iT k), some (iT most), some (.z d)], rfl, .inl ⟨_, .t (.z (dT v)), [some (.lst (ys.map iT)), some (iT n), some (iT k), some (iT most), some (.z d)], .z (dT v), _, rfl, ?_, rfl, vs ++ [v], ys, by simp, rfl, by simp [hl], ?_⟩⟩
      · simp [hF, FMark]
      · intro x hx
        rcases List.mem_append.mp hx with z | z
        · exact hd x z
        · rw [List.mem_singleton.mp z]; exact ⟨b1, b2⟩
  refine ⟨vs, xs', fn_io (e := [some (.lst (xs'.map iT)), some (iT n), some (iT k), some (iT most), none]) rfl ?_ rfl, by rw [h2, rngD_length], h3⟩
  unfold gMarks
  have hg := gRng1_ev k (by omega)
  simp [-gRng1, hg, h1]
end DL

namespace DL
open PySem PySem.Spec PyProof.Rows L2
noncomputable abbrev FCov : FSem := fnOf 2 3 [] gCov
noncomputable abbrev FIns : FSem := fnOf 2 3 [] (gIns FCov)
/-! ### raised -/
def gRaiseB : EM Opd := sO oTupOf (sCons true (sLcN [3] 2 (gmName 3) sYes (sO oAdd (sCons true (sVar 1) (sCons true (sVar 3) sNil)))) sNil)
def gRaise : SM := (sRet (sLcN [2] 0 (gmName 2) sYes gRaiseB))
theorem raiseB_ev (d : D) (b : Int) (v : List Int) (hv : v.length < 10000) : gRaiseB [some (.z d), some (iT b), some (.z (dT v)), none] = some (.ok (.t (.z (dT (v.map (b + ·))))) [some (.z d), some (iT b), some (.z (dT v)), none]) := by
  have h := compF_map (own := [3]) (s := gmName 3) (fe := sO oAdd (sCons true (sVar 1) (sCons true (sVar 3) sNil))) D.int (fun x => iT (b + x)) (env := [some (.z d), some (iT b), some (.z (dT v)), none]) v hv fun x _ => ⟨[some (.z d), some (iT b), some (.z (dT v)), some (iT x)], .t (iT (b + x)), [some (.z d), some (iT b), some (.z (dT v)), some (iT x)], [some (.z d), some (iT b), some (.z (dT v)), some (iT x)], rfl, rfl, rfl, rfl⟩
  unfold gRaiseB
  simp [h]
theorem raise_ev (vs : List (List Int)) (b : Int) (hs : vs.length < 10000) (hv : ∀ v ∈ vs, v.length < 10000) : fnOf 2 4 [] gRaise [.z (LT vs), iT b] = some (.rt (.lst ((vs.map fun v => v.map (b + ·)).map fun v => .z (dT v))) []) := by
  have h := compF_map (own := [2]) (s := gmName 2) (fe := gRaiseB) dT (fun v => T.z (dT (v.map (b + ·)))) (env := [some (.z (LT vs)), some (iT b), none, none]) vs hs fun x hx => ⟨[some (.z (LT vs)), some (iT b), some (.z (dT x)), none], .t (.z (dT (x.map (b + ·)))), [some (.z (LT vs)), some (iT b), some (.z (dT x)), none], [some (.z (LT vs)), some (iT b), some (.z (dT x)), none], rfl, raiseB_ev _ b x (hv x hx), rfl, rfl⟩
  refine fn_rt (e := [some (.z (LT vs)), some (iT b), none, none]) rfl ?_
  unfold gRaise
  have e : sLcN [2] 0 (gmName 2) sYes gRaiseB [some (.z (LT vs)), some (iT b), none, none] = some (.ok (.t (.lst (vs.map fun v => T.z (dT (v.map (b + ·)))))) [some (.z (LT vs)), some (iT b), none, none]) := by
    rw [sLcN_ap]
    simp only [List.getElem?_cons_zero, T.els, T.elsL, wipeE]
    have : ([some (.z (LT vs)), some (iT b), none, none] : En).set 2 none = [some (.z (LT vs)), some (iT b), none, none] := rfl
    rw [this, h]
  have e2 : sRet (sLcN [2] 0 (gmName 2) sYes gRaiseB) [some (.z (LT vs)), some (iT b), none, none] = some (.rt (.lst ((vs.map fun v => v.map (b + ·)).map fun v => .z (dT v))) [some (.z (LT vs)), some (iT b), none, none]) := by
    rw [sRet_ap, e, List.map_map]
    rfl
  exact e2
/-! ### least -/
def minl (ms : List (List Int)) (m : List Int) : Bool := ms.all fun o => !(decide (o ≠ m) && cov m o)
def leastL (ms : List (List Int)) : List (List Int) := (sortU ms).filter (minl ms)
noncomputable def gLeastC (F : FSem) : EM Bool := (sAnd (sTb (sO (oS gNe) (sCons true (sVar 4) (sCons true (sVar 2) sNil)))) (sTr (sCallL 2 F (sCons true (sVar 2) (sCons true (sVar 4) sNil)))))
noncomputable def gLeastB (F : FSem) : SM := (sSeq (sSet 3 (sLcN [4] 0 (gmName 4) (gLeastC F) (sVar 4)))
    (sIfS (sTb (sO (oS gEq) (sCons true (sO (oS gLen) (sCons true (sVar 3) sNil)) (sCons true (sC (.int 0)) sNil))))
      (sApp 1 (sVar 2))
      sNext))
noncomputable def gLeast (F : FSem) : SM :=
  (sSeq (sSet 1 (sTake hLst sNil))
  (sSeq (sFor (sO oSortSet (sCons true (sVar 0) sNil)) (gmName 2) (gLeastB F))
  (sRet (sVar 1))))
theorem leastC_ev (s0 s1 s3 : Option T) (m o : List Int) (hl : m.length = o.length) (h : m.length < 1000000) : gLeastC FCov [s0, s1, some (.z (dT m)), s3, some (.z (dT o))] = some (.ok (decide (o ≠ m) && cov m o) [s0, s1, some (.z (dT m)), s3, some (.z (dT o))]) := by
  have hF : FCov _ = _ := cov_ev m o hl h
  unfold gLeastC
  by_cases e : o = m
  · simp [e]
  · simp [e, hF]
theorem leastF_ev (s0 s1 s3 : Option T) (m : List Int) (h : m.length < 1000000) (ms : List (List Int)) (hl : ∀ o ∈ ms, m.length = o.length) (hs : ms.length < 10000) :
    compF [4] (gmName 4) (gLeastC FCov) (sVar 4) (ms.map dT) [s0, s1, some (.z (dT m)), s3, none] [] = some ((ms.filter fun o => decide (o ≠ m) && cov m o).map (fun v => .z (dT v)), [s0, s1, some (.z (dT m)), s3, none]) := by
  have go : ∀ (ms : List (List Int)) (acc : List T), acc.length + ms.length < 10000 → (∀ o ∈ ms, m.length = o.length) → compF [4] (gmName 4) (gLeastC FCov) (sVar 4) (ms.map dT) [s0, s1, some (.z (dT m)), s3, none] acc = some (acc ++ (ms.filter fun o => decide (o ≠ m) && cov m o).map (fun v => .z (dT v)), [s0, s1, some (.z (dT m)), s3, none]) := by
    intro ms
    induction ms with
    | nil => intro acc _ _; simp [compF]
    | cons o ms ih =>
      intro acc hs hl
      have hlen : acc.length < sizeLine := by
        have := sizeLine_val
        simp at hs
        omega
      have hc := leastC_ev s0 s1 s3 m o (hl o List.mem_cons_self) h
      have hg : gmName 4 (.z (dT o)) [s0, s1, some (.z (dT m)), s3, none] = some [s0, s1, some (.z (dT m)), s3, some (.z (dT o))] := rfl
      rw [List.map_cons]
      unfold compF
      simp only [hg, hc]
      cases hq : (decide (o ≠ m) && cov m o)
      · have := ih acc (by simp at hs; omega) fun z hz => hl z (List.mem_cons_of_mem _ hz)
        simp only [List.filter_cons, hq]
        exact this
      · have := ih (acc ++ [.z (dT o)]) (by simp at hs ⊢; omega) fun z hz => hl z (List.mem_cons_of_mem _ hz)
        have hv : sVar 4 [s0, s1, some (.z (dT m)), s3, some (.z (dT o))] = some (.ok (.t (.z (dT o))) [s0, s1, some (.z (dT m)), s3, some (.z (dT o))]) := rfl
        simp only [List.filter_cons, hq, hv, Opd.take, if_pos hlen]
        refine Eq.trans this ?_
        simp
  simpa using go ms [] (by simpa using hs) hl
theorem leastB_ev (ms fs : List (List Int)) (m : List Int) (s3 : Option T) (h : m.length < 1000000) (hl : ∀ o ∈ ms, m.length = o.length) (hs : ms.length < 10000) (hf : fs.length < 10000) :
    ∃ s3', gLeastB FCov [some (.z (LT ms)), some (.lst (fs.map fun v => .z (dT v))), some (.z (dT m)), s3, none] = some (.nx [some (.z (LT ms)), some (.lst ((if minl ms m = true then fs ++ [m] else fs).map fun v => .z (dT v))), some (.z (dT m)), s3', none]) := by
  have e := leastF_ev (some (.z (LT ms))) (some (.lst (fs.map fun v => .z (dT v)))) s3 m h ms hl hs
  have hlen : fs.length < sizeLine := Nat.lt_trans hf sizeLine_val
  obtain ⟨sm, hsm⟩ : ∃ sm, (ms.filter fun o => decide (o ≠ m) && cov m o) = sm := ⟨_, rfl⟩
  rw [hsm] at e
  have hmin : minl ms m = sm.isEmpty := by
    rw [← hsm]
    unfold minl
    rw [Bool.eq_iff_iff]
    simp
    exact ⟨fun h a ha hn => (h a ha).resolve_left hn, fun h x hx => (Classical.em (x = m)).imp id (h x hx)⟩
  have e1 : sSet 3 (sLcN [4] 0 (gmName 4) (gLeastC FCov) (sVar 4)) [some (.z (LT ms)), some (.lst (fs.map fun v => .z (dT v))), some (.z (dT m)), s3, none] = some (.nx [some (.z (LT ms)), some (.lst (fs.map fun v => .z (dT v))), some (.z (dT m)), some (.lst (sm.map fun v => .z (dT v))), none]) := by
    have : sLcN [4] 0 (gmName 4) (gLeastC FCov) (sVar 4) [some (.z (LT ms)), some (.lst (fs.map fun v => .z (dT v))), some (.z (dT m)), s3, none] = some (.ok (.t (.lst (sm.map fun v => .z (dT v)))) [some (.z (LT ms)), some (.lst (fs.map fun v => .z (dT v))), some (.z (dT m)), s3, none]) := by
      rw [sLcN_ap]
      simp only [List.getElem?_cons_zero, T.els, T.elsL, wipeE]
      have : ([some (.z (LT ms)), some (.lst (fs.map fun v => .z (dT v))), some (.z (dT m)), s3, none] : En).set 4 none = [some (.z (LT ms)), some (.lst (fs.map fun v => .z (dT v))), some (.z (dT m)), s3, none] := rfl
      rw [this, e]
    rw [sSet_ap, this]
    rfl
  refine ⟨some (.lst (sm.map fun v => .z (dT v))), ?_⟩
  unfold gLeastB
  rw [sSeq_nx e1, hmin]
  cases sm with
  | nil => simp [hlen]
  | cons x xs =>
    have : ¬ ((xs.length : Int) + 1 = 0) := by omega
    simp [this]
theorem dInts_ev (v : List Int) : dInts (v.map D.int) = some v := by
  induction v with
  | nil => rfl
  | cons x xs ih => simp [dInts, ih]
theorem intTups_ev (ms : List (List Int)) : intTups (ms.map dT) = some ms := by
  induction ms with
  | nil => rfl
  | cons x xs ih => simp [intTups, ih, dInts_ev]
theorem oSortSet_ev (env : En) (ms : List (List Int)) (o : Opd) (u : T) (ho : o.tt env = some u) (hu : u.elsL = some (ms.map dT)) (h1 : ms.length < 64) (h2 : ∀ m ∈ ms, m ≠ []) : oSortSet env [o] = some (.t (.lst ((sortU ms).map fun v => .z (dT v)))) := by
  unfold oSortSet
  simp only [ho, hu, intTups_ev, if_pos (And.intro h1 h2)]
theorem insU_len (x : List Int) : ∀ l : List (List Int), (insU x l).length ≤ l.length + 1
  | [] => by simp [insU]
  | y :: ys => by
    have := insU_len x ys
    unfold insU
    split <;> (try split) <;> simp <;> omega
theorem sortU_len (l : List (List Int)) : (sortU l).length ≤ l.length := by
  induction l with
  | nil => simp [sortU]
  | cons x xs ih =>
    have := insU_len x (sortU xs)
    show (insU x (sortU xs)).length ≤ _
    simp
    omega
theorem least_ev (ms : List (List Int)) (n : Nat) (hn : n < 1000000) (h0 : 0 < n) (hl : ∀ m ∈ ms, m.length = n) (hs : ms.length < 64) : fnOf 1 5 [] (gLeast FCov) [.z (LT ms)] = some (.rt (.lst ((leastL ms).map fun v => .z (dT v))) []) := by
  have hne : ∀ m ∈ ms, m ≠ [] := fun m hm z => by have := hl m hm; rw [z] at this; simp at this; omega
  obtain ⟨e, h1, s2, s3, h2⟩ := forF_inv (s := gmName 2) (g := gLeastB FCov) (ds := (sortU ms).map dT) (fun p e => ∃ s2 s3, e = [some (.z (LT ms)), some (.lst ((((sortU ms).take p.length).filter (minl ms)).map fun v => .z (dT v))), s2, s3, none]) (env := [some (.z (LT ms)), some (.lst []), none, none, none]) ⟨none, none, rfl⟩ fun p d q env hx i => by
    obtain ⟨s2, s3, rfl⟩ := i
    have hlt : p.length < (sortU ms).length := by
      have := congrArg List.length hx
      simp at this
      omega
    have hd : d = dT (sortU ms)[p.length] := by
      have := congrArg (fun l => l[p.length]?) hx
      simpa [hlt] using this.symm
    obtain ⟨m, hm⟩ : ∃ m, (sortU ms)[p.length] = m := ⟨_, rfl⟩
    have hmm : m ∈ ms := mem_sortU.mp (by rw [← hm]; exact List.getElem_mem hlt)
    rw [hm] at hd
    subst hd
    obtain ⟨s3', hb⟩ := leastB_ev ms (((sortU ms).take p.length).filter (minl ms)) m s3 (by rw [hl m hmm]; exact hn) (fun o ho => by rw [hl m hmm, hl o ho]) (by omega) (Nat.lt_of_le_of_lt (Nat.le_trans (List.length_filter_le _ _) (Nat.le_trans (List.length_take_le' _ _) (sortU_len ms))) (by omega))
    refine ⟨_, _, rfl, .inl hb, some (.z (dT m)), s3', ?_⟩
    have : (sortU ms).take (p ++ [dT m]).length = (sortU ms).take p.length ++ [m] := by
      rw [List.length_append, List.length_singleton, List.take_add_one, List.getElem?_eq_getElem hlt, hm]
      rfl
    rw [this, List.filter_append]
    cases hq : minl ms m <;> simp [hq]
  rw [List.length_map, List.take_length] at h2
  subst h2
  refine fn_rt (e := [some (.z (LT ms)), none, s2, s3, none]) rfl ?_
  have e1 : (sSet 1 (sTake hLst sNil)) [some (.z (LT ms)), none, none, none, none] = some (.nx [some (.z (LT ms)), some (.lst []), none, none, none]) := by simp
  have e2 : (sFor (sO oSortSet (sCons true (sVar 0) sNil)) (gmName 2) (gLeastB FCov)) [some (.z (LT ms)), some (.lst []), none, none, none] = some (.nx [some (.z (LT ms)), some (.lst (((sortU ms).filter (minl ms)).map fun v => .z (dT v))), s2, s3, none]) := by
    have hS := oSortSet_ev [some (.z (LT ms)), some (.lst []), none, none, none] ms (.t (.z (LT ms))) (.z (LT ms)) rfl rfl hs hne
    rw [sFor_ap]
    simp only [sO_ap, sCons_ap, sVar_ap, List.getElem?_cons_zero, sNil_ap, Bool.true_or, if_true, hS, T.els, T.elsL, zs_mapz]
    exact h1
  exact (sSeq_nx e1).trans ((sSeq_nx e2).trans rfl)
end DL

namespace DL
open PySem PySem.Spec PyProof.Rows L2
/-! ### basis_of -/
def basStep (fs : List (List Int)) (m : List Int) : List (List Int) := if (fs.all fun o => !cov m o) = true then fs ++ [m] else fs
def basL (ms : List (List Int)) : List (List Int) := (sortU ms).foldl basStep []
theorem basStep_len (fs : List (List Int)) (m : List Int) : (basStep fs m).length ≤ fs.length + 1 := by
  unfold basStep
  split <;> simp
/-- folding step, on a sorted list, is the filter by minl -/
theorem bas_fold (ms : List (List Int)) (n : Nat) (hl : ∀ m ∈ ms, m.length = n) : ∀ (q p : List (List Int)), sortU ms = p ++ q → ∀ fs : List (List Int), (∀ o ∈ p, ∃ f ∈ fs, cov o f = true) → (∀ f ∈ fs, f ∈ p) → q.foldl basStep fs = fs ++ q.filter (minl ms)
  | [], p, _, fs, _, _ => by simp
  | m :: q, p, hp, fs, hA, hB => by
    have hs := sorted_sortU ms
    rw [hp] at hs
    have hmem : ∀ z, z ∈ ms ↔ z ∈ p ++ m :: q := fun z => by rw [← hp]; exact mem_sortU.symm
    have hm : m ∈ ms := (hmem m).mpr (by simp)
    have hbefore : ∀ z ∈ p, ltI z m = true := fun z hz => (List.pairwise_append.mp hs).2.2 z hz m List.mem_cons_self
    have hafter : ∀ z ∈ q, ltI m z = true := fun z hz => (List.pairwise_cons.mp (List.pairwise_append.mp hs).2.1).1 z hz
    have lenp : ∀ z ∈ p, z.length = n := fun z hz => hl z ((hmem z).mpr (by simp [hz]))
    have key : (fs.all fun o => !cov m o) = minl ms m := by
      rw [Bool.eq_iff_iff]
      unfold minl
      simp only [List.all_eq_true, Bool.not_eq_true', Bool.and_eq_false_iff, decide_eq_false_iff_not, Classical.not_not]
      constructor
      · intro h o ho
        by_cases e : o = m
        · exact .inl e
        · refine .inr ?_
          cases hc : cov m o
          · rfl
          · have lt : ltI o m = true := cov_lt (by rw [hl m hm, hl o ho]) hc e
            have hop : o ∈ p := by
              rcases List.mem_append.mp ((hmem o).mp ho) with z | z
              · exact z
              · rcases List.mem_cons.mp z with z | z
                · exact absurd z e
                · have := ltI_trans lt (hafter o z)
                  rw [ltI_irrefl] at this
                  cases this
            obtain ⟨f, hf, hcf⟩ := hA o hop
            have h1 := h f hf
            have h2 := cov_trans (by rw [hl m hm, hl o ho]) (by rw [hl o ho, lenp f (hB f hf)]) hc hcf
            rw [h1] at h2
            cases h2
      · intro h f hf
        have hfp := hB f hf
        rcases h f ((hmem f).mpr (by simp [hfp])) with e | e
        · have := hbefore f hfp
          rw [e, ltI_irrefl] at this
          cases this
        · exact e
    have hp2 : sortU ms = (p ++ [m]) ++ q := by rw [hp]; simp
    rw [List.foldl_cons, List.filter_cons]
    cases hq : minl ms m
    · rw [hq] at key
      have e1 : basStep fs m = fs := by unfold basStep; rw [key]; simp
      rw [e1, bas_fold ms n hl q (p ++ [m]) hp2 fs (fun o ho => ?_) (fun f hf => by simp [hB f hf])]
      · simp
      · rcases List.mem_append.mp ho with z | z
        · exact hA o z
        · rw [List.mem_singleton.mp z]
          have : ¬ (fs.all fun o => !cov m o) = true := by rw [key]; simp
          simp only [List.all_eq_true, Bool.not_eq_true', Classical.not_forall] at this
          obtain ⟨f, hf, hc⟩ := this
          exact ⟨f, hf, by simpa using hc⟩
    · rw [hq] at key
      have e1 : basStep fs m = fs ++ [m] := by unfold basStep; rw [key]; simp
      rw [e1, bas_fold ms n hl q (p ++ [m]) hp2 (fs ++ [m]) (fun o ho => ?_) (fun f hf => ?_)]
      · simp
      · rcases List.mem_append.mp ho with z | z
        · obtain ⟨f, hf, hc⟩ := hA o z
          exact ⟨f, by simp [hf], hc⟩
        · rw [List.mem_singleton.mp z]
          exact ⟨m, by simp, cov_refl m⟩
      · rcases List.mem_append.mp hf with z | z
        · simp [hB f z]
        · rw [List.mem_singleton.mp z]; simp
theorem bas_least (ms : List (List Int)) (n : Nat) (hl : ∀ m ∈ ms, m.length = n) : basL ms = leastL ms := by
  have := bas_fold ms n hl (sortU ms) [] rfl [] (fun _ h => nomatch h) (fun _ h => nomatch h)
  simpa [basL, leastL] using this
noncomputable def gBasC (F : FSem) : SM := (sSet 3 (sAndV (sVar 3) (sO (oS gNot) (sCons true (sCallL 2 F (sCons true (sVar 2) (sCons true (sVar 4) sNil))) sNil))))
noncomputable def gBasB (F : FSem) : SM := (sSeq (sSet 3 (sC (.bl true)))
    (sSeq (sForN 1 (gmName 4) (gBasC F))
    (sIfS (sTr (sVar 3))
      (sApp 1 (sVar 2))
      sNext)))
noncomputable def gBas (F : FSem) : SM :=
  (sSeq (sSet 1 (sTake hLst sNil))
  (sSeq (sFor (sO oSortSet (sCons true (sVar 0) sNil)) (gmName 2) (gBasB F))
  (sRet (sVar 1))))
theorem basC_loop (s0 s1 : Option T) (m : List Int) (h : m.length < 1000000) : ∀ (fs : List (List Int)) (b : Bool) (o : Option T), (∀ f ∈ fs, m.length = f.length) → ∃ o', forF (gmName 4) (gBasC FCov) (fs.map dT) [s0, s1, some (.z (dT m)), some (bT b), o] = some (.nx [s0, s1, some (.z (dT m)), some (bT (b && fs.all fun o => !cov m o)), o'])
  | [], b, o, _ => ⟨o, by simp [forF]⟩
  | f :: fs, b, o, hl => by
    have hF : FCov _ = _ := cov_ev m f (hl f List.mem_cons_self) h
    have e : gBasC FCov [s0, s1, some (.z (dT m)), some (bT b), some (.z (dT f))] = some (.nx [s0, s1, some (.z (dT m)), some (bT (b && !cov m f)), some (.z (dT f))]) := by
      unfold gBasC
      cases b <;> simp [hF]
    obtain ⟨o', ih⟩ := basC_loop s0 s1 m h fs (b && !cov m f) (some (.z (dT f))) fun z hz => hl z (List.mem_cons_of_mem _ hz)
    refine ⟨o', ?_⟩
    have st : forF (gmName 4) (gBasC FCov) ((f :: fs).map dT) [s0, s1, some (.z (dT m)), some (bT b), o] = (match gBasC FCov [s0, s1, some (.z (dT m)), some (bT b), some (.z (dT f))] with
      | some (.nx e) => forF (gmName 4) (gBasC FCov) (fs.map dT) e
      | some (.ct e) => forF (gmName 4) (gBasC FCov) (fs.map dT) e
      | some (.bk e) => some (.nx e)
      | o => o) := rfl
    rw [st, e]
    refine ih.trans ?_
    rw [List.all_cons, Bool.and_assoc]
theorem basB_ev (s0 : Option T) (fs : List (List Int)) (m : List Int) (s3 s4 : Option T) (h : m.length < 1000000) (hl : ∀ o ∈ fs, m.length = o.length) (hf : fs.length < 10000) :
    ∃ s3' s4', gBasB FCov [s0, some (.lst (fs.map fun v => .z (dT v))), some (.z (dT m)), s3, s4] = some (.nx [s0, some (.lst ((basStep fs m).map fun v => .z (dT v))), some (.z (dT m)), s3', s4']) := by
  have hlen : fs.length < sizeLine := Nat.lt_trans hf sizeLine_val
  obtain ⟨o', hloop⟩ := basC_loop s0 none m h fs true s4 hl
  rw [Bool.true_and] at hloop
  obtain ⟨b, hb⟩ : ∃ b, (fs.all fun o => !cov m o) = b := ⟨_, rfl⟩
  rw [hb] at hloop
  refine ⟨some (bT b), o', ?_⟩
  have e1 : (sSet 3 (sC (.bl true))) [s0, some (.lst (fs.map fun v => .z (dT v))), some (.z (dT m)), s3, s4] = some (.nx [s0, some (.lst (fs.map fun v => .z (dT v))), some (.z (dT m)), some (bT true), s4]) := rfl
  have e2 : (sForN 1 (gmName 4) (gBasC FCov)) [s0, some (.lst (fs.map fun v => .z (dT v))), some (.z (dT m)), some (bT true), s4] = some (.nx [s0, some (.lst (fs.map fun v => .z (dT v))), some (.z (dT m)), some (bT b), o']) := by
    rw [sForN_ap]
    simp only [List.getElem?_cons_succ, List.getElem?_cons_zero, T.els, T.elsL, zs_mapz]
    have : ([s0, some (.lst (fs.map fun v => .z (dT v))), some (.z (dT m)), some (bT true), s4] : En).set 1 none = [s0, none, some (.z (dT m)), some (bT true), s4] := rfl
    rw [this, hloop]
    rfl
  unfold gBasB
  rw [sSeq_nx e1, sSeq_nx e2]
  unfold basStep
  rw [hb]
  cases b
  · simp
  · simp [hlen]
theorem bas_ev (ms : List (List Int)) (n : Nat) (hn : n < 1000000) (h0 : 0 < n) (hl : ∀ m ∈ ms, m.length = n) (hs : ms.length < 64) : fnOf 1 5 [] (gBas FCov) [.z (LT ms)] = some (.rt (.lst ((leastL ms).map fun v => .z (dT v))) []) := by
  have hne : ∀ m ∈ ms, m ≠ [] := fun m hm z => by have := hl m hm; rw [z] at this; simp at this; omega
  have hbl : ∀ k, (∀ f ∈ ((sortU ms).take k).foldl basStep [], f ∈ ms) ∧ (((sortU ms).take k).foldl basStep []).length ≤ ((sortU ms).take k).length := by
    intro k
    have : ∀ (l fs : List (List Int)), (∀ f ∈ fs, f ∈ ms) → (∀ f ∈ l, f ∈ ms) → (∀ f ∈ l.foldl basStep fs, f ∈ ms) ∧ (l.foldl basStep fs).length ≤ fs.length + l.length := by
      intro l
      induction l with
      | nil => intro fs h _; exact ⟨h, by simp⟩
      | cons x l ih =>
        intro fs h h2
        have hx := h2 x List.mem_cons_self
        obtain ⟨a, b⟩ := ih (basStep fs x) (fun f hf => by
          unfold basStep at hf
          split at hf
          · rcases List.mem_append.mp hf with z | z
            · exact h f z
            · rw [List.mem_singleton.mp z]; exact hx
          · exact h f hf) fun f hf => h2 f (List.mem_cons_of_mem _ hf)
        refine ⟨a, ?_⟩
        have := basStep_len fs x
        rw [List.foldl_cons, List.length_cons]
        omega
    have z := this ((sortU ms).take k) [] (fun _ h => nomatch h) fun f hf => mem_sortU.mp (List.mem_of_mem_take hf)
    simpa using z
  obtain ⟨e, h1, s2, s3, s4, h2⟩ := forF_inv (s := gmName 2) (g := gBasB FCov) (ds := (sortU ms).map dT) (fun p e => ∃ s2 s3 s4, e = [some (.z (LT ms)), some (.lst ((((sortU ms).take p.length).foldl basStep []).map fun v => .z (dT v))), s2, s3, s4]) (env := [some (.z (LT ms)), some (.lst []), none, none, none]) ⟨none, none, none, rfl⟩ fun p d q env hx i => by
    obtain ⟨s2, s3, s4, rfl⟩ := i
    have hlt : p.length < (sortU ms).length := by
      have := congrArg List.length hx
      simp at this
      omega
    have hd : d = dT (sortU ms)[p.length] := by
      have := congrArg (fun l => l[p.length]?) hx
      simpa [hlt] using this.symm
    obtain ⟨m, hm⟩ : ∃ m, (sortU ms)[p.length] = m := ⟨_, rfl⟩
    have hmm : m ∈ ms := mem_sortU.mp (by rw [← hm]; exact List.getElem_mem hlt)
    rw [hm] at hd
    subst hd
    have hb := hbl p.length
    obtain ⟨s3', s4', hb⟩ := basB_ev (some (.z (LT ms))) (((sortU ms).take p.length).foldl basStep []) m s3 s4 (by rw [hl m hmm]; exact hn) (fun o ho => by rw [hl m hmm, hl o (hb.1 o ho)]) (Nat.lt_of_le_of_lt (Nat.le_trans hb.2 (Nat.le_trans (List.length_take_le' _ _) (sortU_len ms))) (by omega))
    refine ⟨_, _, rfl, .inl hb, some (.z (dT m)), s3', s4', ?_⟩
    have : (sortU ms).take (p ++ [dT m]).length = (sortU ms).take p.length ++ [m] := by
      rw [List.length_append, List.length_singleton, List.take_add_one, List.getElem?_eq_getElem hlt, hm]
      rfl
    rw [this, List.foldl_append]
    rfl
  rw [List.length_map, List.take_length] at h2
  subst h2
  refine fn_rt (e := [some (.z (LT ms)), none, s2, s3, s4]) rfl ?_
  have e1 : (sSet 1 (sTake hLst sNil)) [some (.z (LT ms)), none, none, none, none] = some (.nx [some (.z (LT ms)), some (.lst []), none, none, none]) := by simp
  have e2 : (sFor (sO oSortSet (sCons true (sVar 0) sNil)) (gmName 2) (gBasB FCov)) [some (.z (LT ms)), some (.lst []), none, none, none] = some (.nx [some (.z (LT ms)), some (.lst ((basL ms).map fun v => .z (dT v))), s2, s3, s4]) := by
    have hS := oSortSet_ev [some (.z (LT ms)), some (.lst []), none, none, none] ms (.t (.z (LT ms))) (.z (LT ms)) rfl rfl hs hne
    rw [sFor_ap]
    simp only [sO_ap, sCons_ap, sVar_ap, List.getElem?_cons_zero, sNil_ap, Bool.true_or, if_true, hS, T.els, T.elsL, zs_mapz]
    exact h1
  rw [← bas_least ms n hl]
  exact (sSeq_nx e1).trans ((sSeq_nx e2).trans rfl)
/-! ### what the least are -/
theorem least_sub {ms : List (List Int)} {m : List Int} (h : m ∈ leastL ms) : m ∈ ms := mem_sortU.mp (List.mem_filter.mp h).1
theorem least_below (ms : List (List Int)) (n : Nat) (hl : ∀ m ∈ ms, m.length = n) : ∀ m ∈ ms, ∃ f ∈ leastL ms, cov m f = true := by
  have : ∀ (q p : List (List Int)), sortU ms = p ++ q → (∀ o ∈ p, ∃ f ∈ p.filter (minl ms), cov o f = true) → ∀ o ∈ sortU ms, ∃ f ∈ (sortU ms).filter (minl ms), cov o f = true := by
    intro q
    induction q with
    | nil =>
      intro p hp h
      rw [List.append_nil] at hp
      rw [hp]
      exact h
    | cons m q ih =>
      intro p hp h
      have hs := sorted_sortU ms
      rw [hp] at hs
      have hmem : ∀ z, z ∈ ms ↔ z ∈ p ++ m :: q := fun z => by rw [← hp]; exact mem_sortU.symm
      have hm : m ∈ ms := (hmem m).mpr (by simp)
      have hafter : ∀ z ∈ q, ltI m z = true := fun z hz => (List.pairwise_cons.mp (List.pairwise_append.mp hs).2.1).1 z hz
      refine ih (p ++ [m]) (by rw [hp]; simp) fun o ho => ?_
      rw [List.filter_append]
      rcases List.mem_append.mp ho with z | z
      · obtain ⟨f, hf, hc⟩ := h o z
        exact ⟨f, List.mem_append_left _ hf, hc⟩
      · rw [List.mem_singleton.mp z]
        cases hq : minl ms m
        · have h2 : ¬ minl ms m = true := by rw [hq]; simp
          unfold minl at h2
          simp only [List.all_eq_true, Bool.not_eq_true', Bool.and_eq_false_iff, decide_eq_false_iff_not, Classical.not_not, Classical.not_forall, not_or] at h2
          obtain ⟨o, ho, hne, hc⟩ := h2
          have hc : cov m o = true := by simpa using hc
          have lt : ltI o m = true := cov_lt (by rw [hl m hm, hl o ho]) hc hne
          have hop : o ∈ p := by
            rcases List.mem_append.mp ((hmem o).mp ho) with z | z
            · exact z
            · rcases List.mem_cons.mp z with z | z
              · exact absurd z hne
              · have := ltI_trans lt (hafter o z)
                rw [ltI_irrefl] at this
                cases this
          obtain ⟨f, hf, hcf⟩ := h o hop
          have hfm : f ∈ ms := (hmem f).mpr (by simp [(List.mem_filter.mp hf).1])
          exact ⟨f, List.mem_append_left _ hf, cov_trans (by rw [hl m hm, hl o ho]) (by rw [hl o ho, hl f hfm]) hc hcf⟩
        · exact ⟨m, List.mem_append_right _ (by simp [hq]), cov_refl m⟩
  intro m hm
  exact this (sortU ms) [] rfl (fun _ h => nomatch h) m (mem_sortU.mpr hm)
theorem ins_iff {ms : List (List Int)} {x : List Int} : ins ms x = true ↔ ∃ m ∈ ms, cov x m = true := by simp [ins]
theorem ins_least (ms : List (List Int)) (n : Nat) (hl : ∀ m ∈ ms, m.length = n) (x : List Int) (hx : x.length = n) : ins (leastL ms) x = ins ms x := by
  rw [Bool.eq_iff_iff, ins_iff, ins_iff]
  constructor
  · rintro ⟨m, hm, hc⟩
    exact ⟨m, least_sub hm, hc⟩
  · rintro ⟨m, hm, hc⟩
    obtain ⟨f, hf, hcf⟩ := least_below ms n hl m hm
    exact ⟨f, hf, cov_trans (by rw [hx, hl m hm]) (by rw [hl m hm, hl f (least_sub hf)]) hc hcf⟩
theorem sorted_least (ms : List (List Int)) : (leastL ms).Pairwise (fun a b => ltI a b = true) := (sorted_sortU ms).sublist List.filter_sublist
theorem least_least (ms : List (List Int)) : leastL (leastL ms) = leastL ms := by
  have e : sortU (leastL ms) = leastL ms := sorted_one (sorted_sortU _) (sorted_least ms) fun z => mem_sortU
  have : leastL (leastL ms) = (leastL ms).filter (minl (leastL ms)) := by
    conv => lhs; unfold leastL
    rw [show sortU ((sortU ms).filter (minl ms)) = (sortU ms).filter (minl ms) from e]
    rfl
  rw [this]
  apply List.filter_eq_self.mpr
  intro m hm
  have h1 := (List.mem_filter.mp hm).2
  unfold minl at h1 ⊢
  rw [List.all_eq_true] at h1 ⊢
  exact fun o ho => h1 o (least_sub ho)
end DL

namespace DL
open PySem PySem.Spec PyProof.Rows L2
@[simp] theorem imms_ints (xs : List Int) : D.imms (xs.map D.int) = true := imms_map _ (fun _ => rfl) xs
/-! ### join -/
def mxI (a b : Int) : Int := if b > a then b else a
def joinL (a b : List Int) : List Int := (List.range a.length).map fun k => mxI (a.getD k 0) (b.getD k 0)
theorem joinL_len (a b : List Int) : (joinL a b).length = a.length := by simp [joinL]
def gMaxE (i j k : Nat) : EM Opd := (sO oMax2 (sCons true (sO oIx (sCons true (sVar i) (sCons true (sVar k) sNil))) (sCons true (sO oIx (sCons true (sVar j) (sCons true (sVar k) sNil))) sNil)))
noncomputable def gJoin : SM := (sRet (sO oTupOf (sCons true (sLcR [2] gRng1 (sCons true (sO (oS gLen) (sCons true (sVar 0) sNil)) sNil) (gmName 2) sYes (gMaxE 0 1 2)) sNil)))
theorem maxE_ev (a b : List Int) (k : Nat) (h : k < a.length) (h2 : k < b.length) : gMaxE 0 1 2 [some (.z (dT a)), some (.z (dT b)), some (iT k)] = some (.ok (.t (iT (mxI (a.getD k 0) (b.getD k 0)))) [some (.z (dT a)), some (.z (dT b)), some (iT k)]) := by
  unfold gMaxE mxI
  simp [h, h2]
theorem join_comp (a b : List Int) (hl : a.length = b.length) (h : a.length < 10000) : compF [2] (gmName 2) sYes (gMaxE 0 1 2) (rngD 0 a.length) [some (.z (dT a)), some (.z (dT b)), none] [] = some ((joinL a b).map iT, [some (.z (dT a)), some (.z (dT b)), none]) := by
  have e := compF_map (own := [2]) (s := gmName 2) (fe := gMaxE 0 1 2) (fun k : Nat => D.int (0 + (k : Int))) (fun k : Nat => iT (mxI (a.getD k 0) (b.getD k 0))) (env := [some (.z (dT a)), some (.z (dT b)), none]) (List.range a.length) (by simpa using h) fun k hk => by
    have hk := List.mem_range.mp hk
    refine ⟨[some (.z (dT a)), some (.z (dT b)), some (iT k)], .t (iT (mxI (a.getD k 0) (b.getD k 0))), [some (.z (dT a)), some (.z (dT b)), some (iT k)], [some (.z (dT a)), some (.z (dT b)), some (iT k)], ?_, maxE_ev a b k hk (by omega), rfl, rfl⟩
    rw [Int.zero_add]
    rfl
  rw [rngD_map, e]
  simp [joinL]
theorem join_ev (a b : List Int) (hl : a.length = b.length) (h : a.length < 10000) : fnOf 2 3 [] gJoin [.z (dT a), .z (dT b)] = some (.rt (.z (dT (joinL a b))) []) := by
  refine fn_rt (e := [some (.z (dT a)), some (.z (dT b)), none]) rfl ?_
  unfold gJoin
  have hg := gRng1_ev a.length (by omega)
  have e := join_comp a b hl h
  simp [-gRng1, hg, e]
noncomputable abbrev FJoin : FSem := fnOf 2 3 [] gJoin
theorem cov_max_aux : ∀ (x a b : List Int), x.length = a.length → a.length = b.length → cov x ((a.zip b).map fun p => mxI p.1 p.2) = (cov x a && cov x b)
  | [], [], [], _, _ => rfl
  | x :: xs, a :: as, b :: bs, h1, h2 => by
    have ih := cov_max_aux xs as bs (by simpa using h1) (by simpa using h2)
    simp only [List.zip_cons_cons, List.map_cons, cov, ih]
    have : decide (mxI a b ≤ x) = (decide (a ≤ x) && decide (b ≤ x)) := by
      rw [Bool.eq_iff_iff]
      simp only [decide_eq_true_eq, Bool.and_eq_true]
      unfold mxI
      split <;> omega
    rw [this]
    cases decide (a ≤ x) <;> cases decide (b ≤ x) <;> cases cov xs as <;> rfl
theorem joinL_zip (a b : List Int) (h : a.length = b.length) : joinL a b = (a.zip b).map fun p => mxI p.1 p.2 := by
  apply List.ext_getElem
  · simp [joinL, h]
  · intro i h1 h2
    have h3 : i < a.length := by rw [joinL_len] at h1; exact h1
    simp [joinL, h3, show i < b.length by omega]
theorem cov_join (x a b : List Int) (h1 : x.length = a.length) (h2 : a.length = b.length) : cov x (joinL a b) = (cov x a && cov x b) := by
  rw [joinL_zip a b h2, cov_max_aux x a b h1 h2]
/-! ### meet -/
noncomputable def gMeetB (FJ : FSem) : SM := (sApp 2 (sCallL 2 FJ (sCons true (sVar 3) (sCons true (sVar 4) sNil))))
noncomputable def gMeet (FJ FB : FSem) : SM :=
  (sSeq (sSet 2 (sTake hLst sNil))
  (sSeq (sForN 0 (gmName 3)
    (sForN 1 (gmName 4) (gMeetB FJ)))
  (sRet (sCallL 1 FB (sCons true (sVar 2) sNil)))))
noncomputable abbrev FBas : FSem := fnOf 1 5 [] (gBas FCov)
def joins (A B : List (List Int)) : List (List Int) := (A.map fun a => B.map fun b => joinL a b).flatten
theorem meetI_ev (dA : D) (a : List Int) (B : List (List Int)) (n : Nat) (hn : n < 10000) (ha : a.length = n) (hB : ∀ b ∈ B, b.length = n) (fs : List (List Int)) (o : Option T) (hs : fs.length + B.length < 10000) :
    ∃ o', sForN 1 (gmName 4) (gMeetB FJoin) [some (.z dA), some (.z (LT B)), some (.lst (fs.map fun v => .z (dT v))), some (.z (dT a)), o] = some (.nx [some (.z dA), some (.z (LT B)), some (.lst ((fs ++ B.map fun b => joinL a b).map fun v => .z (dT v))), some (.z (dT a)), o']) := by
  have go : ∀ (B' : List (List Int)) (fs : List (List Int)) (o : Option T), (∀ b ∈ B', b.length = n) → fs.length + B'.length < 10000 → ∃ o', forF (gmName 4) (gMeetB FJoin) (B'.map dT) [some (.z dA), some (.z (LT B)), some (.lst (fs.map fun v => .z (dT v))), some (.z (dT a)), o] = some (.nx [some (.z dA), some (.z (LT B)), some (.lst ((fs ++ B'.map fun b => joinL a b).map fun v => .z (dT v))), some (.z (dT a)), o']) := by
    intro B'
    induction B' with
    | nil => intro fs o _ _; exact ⟨o, by simp [forF]⟩
    | cons b B' ih =>
      intro fs o hb hs
      have hlen : fs.length < sizeLine := by
        have := sizeLine_val
        simp at hs
        omega
      have hF : FJoin _ = _ := join_ev a b (by rw [ha, hb b List.mem_cons_self]) (by omega)
      have hi := dT_imm (joinL a b)
      have e : gMeetB FJoin [some (.z dA), some (.z (LT B)), some (.lst (fs.map fun v => .z (dT v))), some (.z (dT a)), some (.z (dT b))] = some (.nx [some (.z dA), some (.z (LT B)), some (.lst ((fs ++ [joinL a b]).map fun v => .z (dT v))), some (.z (dT a)), some (.z (dT b))]) := by
        unfold gMeetB
        simp [hF, hi, hlen]
      obtain ⟨o', ih⟩ := ih (fs ++ [joinL a b]) (some (.z (dT b))) (fun z hz => hb z (List.mem_cons_of_mem _ hz)) (by simp at hs ⊢; omega)
      refine ⟨o', ?_⟩
      have st : forF (gmName 4) (gMeetB FJoin) ((b :: B').map dT) [some (.z dA), some (.z (LT B)), some (.lst (fs.map fun v => .z (dT v))), some (.z (dT a)), o] = (match gMeetB FJoin [some (.z dA), some (.z (LT B)), some (.lst (fs.map fun v => .z (dT v))), some (.z (dT a)), some (.z (dT b))] with
        | some (.nx e) => forF (gmName 4) (gMeetB FJoin) (B'.map dT) e
        | some (.ct e) => forF (gmName 4) (gMeetB FJoin) (B'.map dT) e
        | some (.bk e) => some (.nx e)
        | o => o) := rfl
      rw [st, e]
      refine ih.trans ?_
      simp
  obtain ⟨o', h⟩ := go B fs o hB hs
  exact ⟨o', h⟩
theorem joins_len (A B : List (List Int)) : (joins A B).length = A.length * B.length := by
  induction A with
  | nil => simp [joins]
  | cons a A ih =>
    have : joins (a :: A) B = (B.map fun b => joinL a b) ++ joins A B := rfl
    rw [this, List.length_append, ih, List.length_map, List.length_cons, Nat.succ_mul]
    omega
theorem mem_joins {A B : List (List Int)} {m : List Int} : m ∈ joins A B ↔ ∃ a ∈ A, ∃ b ∈ B, m = joinL a b := by
  simp only [joins, List.mem_flatten, List.mem_map]
  constructor
  · rintro ⟨l, ⟨a, ha, rfl⟩, h⟩
    obtain ⟨b, hb, rfl⟩ := List.mem_map.mp h
    exact ⟨a, ha, b, hb, rfl⟩
  · rintro ⟨a, ha, b, hb, rfl⟩
    exact ⟨_, ⟨a, ha, rfl⟩, List.mem_map.mpr ⟨b, hb, rfl⟩⟩
theorem meet_ev (A B : List (List Int)) (n : Nat) (hn : n < 10000) (h0 : 0 < n) (hA : ∀ a ∈ A, a.length = n) (hB : ∀ b ∈ B, b.length = n) (hs : A.length * B.length < 64) :
    fnOf 2 5 [] (gMeet FJoin FBas) [.z (LT A), .z (LT B)] = some (.rt (.lst ((leastL (joins A B)).map fun v => .z (dT v))) []) := by
  have go : ∀ (A' : List (List Int)) (fs : List (List Int)) (o o2 : Option T), (∀ a ∈ A', a.length = n) → fs.length + A'.length * B.length < 10000 → ∃ o' o2', forF (gmName 3) (sForN 1 (gmName 4) (gMeetB FJoin)) (A'.map dT) [some (.z (LT A)), some (.z (LT B)), some (.lst (fs.map fun v => .z (dT v))), o, o2] = some (.nx [some (.z (LT A)), some (.z (LT B)), some (.lst ((fs ++ joins A' B).map fun v => .z (dT v))), o', o2']) := by
    intro A'
    induction A' with
    | nil => intro fs o o2 _ _; exact ⟨o, o2, by simp [forF, joins]⟩
    | cons a A' ih =>
      intro fs o o2 ha hs
      rw [List.length_cons, Nat.succ_mul] at hs
      obtain ⟨o1, e⟩ := meetI_ev (LT A) a B n hn (ha a List.mem_cons_self) hB fs o2 (by omega)
      obtain ⟨o', o2', ih⟩ := ih (fs ++ B.map fun b => joinL a b) (some (.z (dT a))) o1 (fun z hz => ha z (List.mem_cons_of_mem _ hz)) (by simp; omega)
      refine ⟨o', o2', ?_⟩
      have st : forF (gmName 3) (sForN 1 (gmName 4) (gMeetB FJoin)) ((a :: A').map dT) [some (.z (LT A)), some (.z (LT B)), some (.lst (fs.map fun v => .z (dT v))), o, o2] = (match sForN 1 (gmName 4) (gMeetB FJoin) [some (.z (LT A)), some (.z (LT B)), some (.lst (fs.map fun v => .z (dT v))), some (.z (dT a)), o2] with
        | some (.nx e) => forF (gmName 3) (sForN 1 (gmName 4) (gMeetB FJoin)) (A'.map dT) e
        | some (.ct e) => forF (gmName 3) (sForN 1 (gmName 4) (gMeetB FJoin)) (A'.map dT) e
        | some (.bk e) => some (.nx e)
        | o => o) := rfl
      rw [st, e]
      refine ih.trans ?_
      have : joins (a :: A') B = (B.map fun b => joinL a b) ++ joins A' B := rfl
      rw [this, List.append_assoc]
  obtain ⟨o, o2, h⟩ := go A [] none none hA (by simp; omega)
  have hjl : ∀ m ∈ joins A B, m.length = n := fun m hm => by
    obtain ⟨a, ha, b, hb, rfl⟩ := mem_joins.mp hm
    rw [joinL_len, hA a ha]
  have hF : FBas _ = _ := bas_ev (joins A B) n (by omega) h0 hjl (by rw [joins_len]; exact hs)
  refine fn_rt (e := [some (.z (LT A)), some (.z (LT B)), some (.lst ((joins A B).map fun v => .z (dT v))), o, o2]) rfl ?_
  have e1 : (sSet 2 (sTake hLst sNil)) [some (.z (LT A)), some (.z (LT B)), none, none, none] = some (.nx [some (.z (LT A)), some (.z (LT B)), some (.lst (([] : List (List Int)).map fun v => .z (dT v))), none, none]) := by simp
  have e2 : (sForN 0 (gmName 3) (sForN 1 (gmName 4) (gMeetB FJoin))) [some (.z (LT A)), some (.z (LT B)), some (.lst (([] : List (List Int)).map fun v => .z (dT v))), none, none] = some (.nx [some (.z (LT A)), some (.z (LT B)), some (.lst ((joins A B).map fun v => .z (dT v))), o, o2]) := h
  have hc : (T.lst ((leastL (joins A B)).map fun v => .z (dT v))).clean = true := by
    rw [T.clean]
    exact cleans_map _ dT_imm _
  have e3 : (sRet (sCallL 1 FBas (sCons true (sVar 2) sNil))) [some (.z (LT A)), some (.z (LT B)), some (.lst ((joins A B).map fun v => .z (dT v))), o, o2] = some (.rt (.lst ((leastL (joins A B)).map fun v => .z (dT v))) [some (.z (LT A)), some (.z (LT B)), some (.lst ((joins A B).map fun v => .z (dT v))), o, o2]) := by
    simp [hF, hc]
  exact (sSeq_nx e1).trans ((sSeq_nx e2).trans e3)
/-! ### closed_within -/
noncomputable def gWithB (F : FSem) : SM := (sIfS (sNot (sTr (sCallL 2 F (sCons true (sVar 1) (sCons true (sVar 2) sNil))))) (sRet (sC (.bl false))) sNext)
noncomputable def gWith (F : FSem) : SM := (sSeq (sForN 0 (gmName 2) (gWithB F)) (sRet (sC (.bl true))))
theorem with_ev (A B : List (List Int)) (n : Nat) (hn : n < 10000) (hA : ∀ a ∈ A, a.length = n) (hB : ∀ b ∈ B, b.length = n) : fnOf 2 3 [] (gWith FIns) [.z (LT A), .z (LT B)] = some (.rt (bT (A.all fun a => ins B a)) []) := by
  have go : ∀ (A' : List (List Int)) (o : Option T), (∀ a ∈ A', a.length = n) → ∃ e, forF (gmName 2) (gWithB FIns) (A'.map dT) [some (.z (LT A)), some (.z (LT B)), o] = if (A'.all fun a => ins B a) = true then some (.nx e) else some (.rt (bT false) e) := by
    intro A'
    induction A' with
    | nil => intro o _; exact ⟨_, rfl⟩
    | cons a A' ih =>
      intro o ha
      have hF : FIns _ = _ := ins_ev B a (fun m hm => by rw [ha a List.mem_cons_self, hB m hm]) (by rw [ha a List.mem_cons_self]; omega)
      have e : gWithB FIns [some (.z (LT A)), some (.z (LT B)), some (.z (dT a))] = if ins B a = true then some (.nx [some (.z (LT A)), some (.z (LT B)), some (.z (dT a))]) else some (.rt (bT false) [some (.z (LT A)), some (.z (LT B)), some (.z (dT a))]) := by
        unfold gWithB
        cases hc : ins B a <;> rw [hc] at hF <;> simp [hF]
      have st : forF (gmName 2) (gWithB FIns) ((a :: A').map dT) [some (.z (LT A)), some (.z (LT B)), o] = (match gWithB FIns [some (.z (LT A)), some (.z (LT B)), some (.z (dT a))] with
        | some (.nx e) => forF (gmName 2) (gWithB FIns) (A'.map dT) e
        | some (.ct e) => forF (gmName 2) (gWithB FIns) (A'.map dT) e
        | some (.bk e) => some (.nx e)
        | o => o) := rfl
      rw [st, e, List.all_cons]
      cases hc : ins B a
      · exact ⟨_, rfl⟩
      · obtain ⟨e, ih⟩ := ih (some (.z (dT a))) fun z hz => ha z (List.mem_cons_of_mem _ hz)
        exact ⟨e, ih⟩
  obtain ⟨e, h⟩ := go A none hA
  have e1 : (sForN 0 (gmName 2) (gWithB FIns)) [some (.z (LT A)), some (.z (LT B)), none] = if (A.all fun a => ins B a) = true then some (.nx e) else some (.rt (bT false) e) := h
  cases hc : (A.all fun a => ins B a)
  · rw [hc] at e1
    exact fn_rt rfl (sSeq_rt e1)
  · rw [hc] at e1
    exact fn_rt rfl (sSeq_nx e1)
end DL

namespace DL
open PySem PySem.Spec PyProof.Rows L2
/-! ### loops that ask something of each index, or of each item -/
theorem sIfS_b {fc : EM Bool} {g h : SM} {env e : En} {b : Bool} (x : fc env = some (.ok b e)) : sIfS fc g h env = if b = true then g e else h e := by rw [sIfS_ap, x]
noncomputable def gAllIx (t : EM Bool) : SM := sSeq (sForR gRng1 (sCons true (sO (oS gLen) (sCons true (sVar 0) sNil)) sNil) (gmName 2) (sIfS t (sRet (sC (.bl false))) sNext)) (sRet (sC (.bl true)))
/-- t says: broken at k -/
theorem allIx_ev (t : EM Bool) (a b : List Int) (c : Nat → Bool) (h : a.length < 1000000) (ht : ∀ k, k < a.length → t [some (.z (dT a)), some (.z (dT b)), some (iT k)] = some (.ok (!c k) [some (.z (dT a)), some (.z (dT b)), some (iT k)])) :
    fnOf 2 3 [] (gAllIx t) [.z (dT a), .z (dT b)] = some (.rt (bT ((List.range a.length).all c)) []) := by
  have go : ∀ (n k : Nat) (o : Option T), k + n = a.length → ∃ e, forF (gmName 2) (sIfS t (sRet (sC (.bl false))) sNext) (rngD k n) [some (.z (dT a)), some (.z (dT b)), o] = if ((List.range' k n).all c) = true then some (.nx e) else some (.rt (bT false) e) := by
    intro n
    induction n with
    | zero => intro k o _; exact ⟨_, rfl⟩
    | succ n ih =>
      intro k o hk
      have e1 : sIfS t (sRet (sC (.bl false))) sNext [some (.z (dT a)), some (.z (dT b)), some (iT k)] = if c k = true then some (.nx [some (.z (dT a)), some (.z (dT b)), some (iT k)]) else some (.rt (bT false) [some (.z (dT a)), some (.z (dT b)), some (iT k)]) := by
        rw [sIfS_b (ht k (by omega))]
        cases c k <;> rfl
      have st : forF (gmName 2) (sIfS t (sRet (sC (.bl false))) sNext) (rngD k (n + 1)) [some (.z (dT a)), some (.z (dT b)), o] = (match sIfS t (sRet (sC (.bl false))) sNext [some (.z (dT a)), some (.z (dT b)), some (iT k)] with
        | some (.nx e) => forF (gmName 2) (sIfS t (sRet (sC (.bl false))) sNext) (rngD ((k : Int) + 1) n) e
        | some (.ct e) => forF (gmName 2) (sIfS t (sRet (sC (.bl false))) sNext) (rngD ((k : Int) + 1) n) e
        | some (.bk e) => some (.nx e)
        | o => o) := rfl
      rw [st, e1, List.range'_succ, List.all_cons]
      cases hc : c k
      · exact ⟨_, rfl⟩
      · obtain ⟨e, ih⟩ := ih (k + 1) (some (iT k)) (by omega)
        exact ⟨e, ih⟩
  obtain ⟨e, ih⟩ := go a.length 0 none (by omega)
  have e1 : (sForR gRng1 (sCons true (sO (oS gLen) (sCons true (sVar 0) sNil)) sNil) (gmName 2) (sIfS t (sRet (sC (.bl false))) sNext)) [some (.z (dT a)), some (.z (dT b)), none] = if ((List.range a.length).all c) = true then some (.nx e) else some (.rt (bT false) e) := by
    rw [forR1_ev (n := a.length) (by simp) h, List.range_eq_range']
    exact ih
  cases hc : (List.range a.length).all c
  · rw [hc] at e1
    exact fn_rt rfl (sSeq_rt e1)
  · rw [hc] at e1
    exact fn_rt rfl (sSeq_nx e1)
noncomputable def gAnyIt (t : EM Bool) : SM := sSeq (sForN 0 (gmName 2) (sIfS t (sRet (sC (.bl true))) sNext)) (sRet (sC (.bl false)))
theorem anyIt_ev (t : EM Bool) (ms : List (List Int)) (x : List Int) (c : List Int → Bool) (ht : ∀ m ∈ ms, t [some (.z (LT ms)), some (.z (dT x)), some (.z (dT m))] = some (.ok (c m) [some (.z (LT ms)), some (.z (dT x)), some (.z (dT m))])) :
    fnOf 2 3 [] (gAnyIt t) [.z (LT ms), .z (dT x)] = some (.rt (bT (ms.any c)) []) := by
  have go : ∀ (q : List (List Int)) (o : Option T), (∀ m ∈ q, m ∈ ms) → ∃ e, forF (gmName 2) (sIfS t (sRet (sC (.bl true))) sNext) (q.map dT) [some (.z (LT ms)), some (.z (dT x)), o] = if q.any c = true then some (.rt (bT true) e) else some (.nx e) := by
    intro q
    induction q with
    | nil => intro o _; exact ⟨_, rfl⟩
    | cons m q ih =>
      intro o hq
      have e1 : sIfS t (sRet (sC (.bl true))) sNext [some (.z (LT ms)), some (.z (dT x)), some (.z (dT m))] = if c m = true then some (.rt (bT true) [some (.z (LT ms)), some (.z (dT x)), some (.z (dT m))]) else some (.nx [some (.z (LT ms)), some (.z (dT x)), some (.z (dT m))]) := by
        rw [sIfS_b (ht m (hq m List.mem_cons_self))]
        cases c m <;> rfl
      have st : forF (gmName 2) (sIfS t (sRet (sC (.bl true))) sNext) ((m :: q).map dT) [some (.z (LT ms)), some (.z (dT x)), o] = (match sIfS t (sRet (sC (.bl true))) sNext [some (.z (LT ms)), some (.z (dT x)), some (.z (dT m))] with
        | some (.nx e) => forF (gmName 2) (sIfS t (sRet (sC (.bl true))) sNext) (q.map dT) e
        | some (.ct e) => forF (gmName 2) (sIfS t (sRet (sC (.bl true))) sNext) (q.map dT) e
        | some (.bk e) => some (.nx e)
        | o => o) := rfl
      rw [st, e1, List.any_cons]
      cases hc : c m
      · obtain ⟨e, ih⟩ := ih (some (.z (dT m))) fun z hz => hq z (List.mem_cons_of_mem _ hz)
        exact ⟨e, ih⟩
      · exact ⟨_, rfl⟩
  obtain ⟨e, ih⟩ := go ms none fun _ h => h
  have e1 : (sForN 0 (gmName 2) (sIfS t (sRet (sC (.bl true))) sNext)) [some (.z (LT ms)), some (.z (dT x)), none] = if ms.any c = true then some (.rt (bT true) e) else some (.nx e) := ih
  cases hc : ms.any c
  · rw [hc] at e1
    exact fn_rt rfl (sSeq_nx e1)
  · rw [hc] at e1
    exact fn_rt rfl (sSeq_rt e1)
/-! ### the greatest by a relation -/
section
variable (R : List Int → List Int → Bool)
/-- no other member of ms stands above m -/
def topB (ms : List (List Int)) (m : List Int) : Bool := ms.all fun o => !(decide (o ≠ m) && R m o)
def topL (ms : List (List Int)) : List (List Int) := (sortU ms).filter (topB R ms)
variable {R}
theorem top_sub {ms : List (List Int)} {m : List Int} (h : m ∈ topL R ms) : m ∈ ms := mem_sortU.mp (List.mem_filter.mp h).1
theorem topB_iff {ms : List (List Int)} {m : List Int} : topB R ms m = true ↔ ∀ o ∈ ms, R m o = true → o = m := by
  unfold topB
  simp only [List.all_eq_true, Bool.not_eq_true', Bool.and_eq_false_iff, decide_eq_false_iff_not, Classical.not_not]
  constructor
  · intro h o ho hr
    rcases h o ho with z | z
    · exact z
    · rw [hr] at z; cases z
  · intro h o ho
    cases hr : R m o
    · exact .inr rfl
    · exact .inl (h o ho hr)
theorem filter_lt {α : Type} (p q : α → Bool) : ∀ (l : List α), (∀ x ∈ l, p x = true → q x = true) → (∃ x ∈ l, q x = true ∧ p x = false) → (l.filter p).length < (l.filter q).length
  | [], _, ⟨_, h, _⟩ => by simp at h
  | a :: l, h1, h2 => by
    have le : (l.filter p).length ≤ (l.filter q).length := by
      clear h2
      have h1' : ∀ x ∈ l, p x = true → q x = true := fun x hx => h1 x (List.mem_cons_of_mem _ hx)
      clear h1
      induction l with
      | nil => simp
      | cons b l ih =>
        have ih := ih fun x hx => h1' x (List.mem_cons_of_mem _ hx)
        have hb := h1' b List.mem_cons_self
        simp only [List.filter_cons]
        cases hp : p b
        · cases hq : q b <;> simp <;> omega
        · rw [hb hp]; simp; omega
    obtain ⟨x, hx, hq, hp⟩ := h2
    simp only [List.filter_cons]
    rcases List.mem_cons.mp hx with rfl | hx
    · rw [hq, hp]; simp; omega
    · have := filter_lt p q l (fun x hx => h1 x (List.mem_cons_of_mem _ hx)) ⟨x, hx, hq, hp⟩
      have ha := h1 a List.mem_cons_self
      cases hpa : p a
      · cases hqa : q a <;> simp <;> omega
      · rw [ha hpa]; simp; omega
/-- a greatest one above each member -/
theorem top_above {ms : List (List Int)} (refl : ∀ m ∈ ms, R m m = true) (trans : ∀ a ∈ ms, ∀ b ∈ ms, ∀ c ∈ ms, R a b = true → R b c = true → R a c = true) (anti : ∀ a ∈ ms, ∀ b ∈ ms, R a b = true → R b a = true → a = b) :
    ∀ m ∈ ms, ∃ f ∈ topL R ms, R m f = true := by
  have : ∀ (n : Nat) (m : List Int), m ∈ ms → (ms.filter fun o => decide (o ≠ m) && R m o).length ≤ n → ∃ f ∈ topL R ms, R m f = true := by
    intro n
    induction n with
    | zero =>
      intro m hm h
      refine ⟨m, List.mem_filter.mpr ⟨mem_sortU.mpr hm, topB_iff.mpr fun o ho hr => ?_⟩, refl m hm⟩
      have e : (ms.filter fun o => decide (o ≠ m) && R m o) = [] := List.length_eq_zero_iff.mp (by omega)
      have := List.filter_eq_nil_iff.mp e o ho
      simp [hr] at this
      exact this
    | succ n ih =>
      intro m hm h
      cases hb : topB R ms m
      · have hb' : ¬ topB R ms m = true := by rw [hb]; simp
        rw [topB_iff] at hb'
        simp only [Classical.not_forall] at hb'
        obtain ⟨o, ho, hr, hne⟩ := hb'
        have lt : (ms.filter fun z => decide (z ≠ o) && R o z).length < (ms.filter fun z => decide (z ≠ m) && R m z).length := by
          refine filter_lt _ _ ms (fun z hz hp => ?_) ⟨o, ho, by simp [hne, hr], by simp⟩
          simp only [Bool.and_eq_true, decide_eq_true_eq] at hp ⊢
          refine ⟨fun e => ?_, trans m hm o ho z hz hr hp.2⟩
          subst e
          exact hne (anti o ho z hz hp.2 hr)
        obtain ⟨f, hf, hrf⟩ := ih o ho (by omega)
        exact ⟨f, hf, trans m hm o ho f (top_sub hf) hr hrf⟩
      · exact ⟨m, List.mem_filter.mpr ⟨mem_sortU.mpr hm, hb⟩, refl m hm⟩
  exact fun m hm => this _ m hm (Nat.le_refl _)
theorem sorted_top (ms : List (List Int)) : (topL R ms).Pairwise (fun a b => ltI a b = true) := (sorted_sortU ms).sublist List.filter_sublist
theorem top_top (ms : List (List Int)) : topL R (topL R ms) = topL R ms := by
  have e : sortU (topL R ms) = topL R ms := sorted_one (sorted_sortU _) (sorted_top ms) fun z => mem_sortU
  have : topL R (topL R ms) = (topL R ms).filter (topB R (topL R ms)) := by
    conv => lhs; unfold topL
    rw [show sortU ((sortU ms).filter (topB R ms)) = (sortU ms).filter (topB R ms) from e]
    rfl
  rw [this]
  apply List.filter_eq_self.mpr
  intro m hm
  have h1 := topB_iff.mp (List.mem_filter.mp hm).2
  exact topB_iff.mpr fun o ho hr => h1 o (top_sub ho) hr
end
/-! ### .. as the law computes them -/
section
variable (R : List Int → List Int → Bool) (F : FSem) (n : Nat) (hF : ∀ a b : List Int, a.length = n → b.length = n → F [.z (dT a), .z (dT b)] = some (.rt (bT (R a b)) []))
include hF
theorem topC_ev (s0 s1 s3 : Option T) (m o : List Int) (hm : m.length = n) (ho : o.length = n) : gLeastC F [s0, s1, some (.z (dT m)), s3, some (.z (dT o))] = some (.ok (decide (o ≠ m) && R m o) [s0, s1, some (.z (dT m)), s3, some (.z (dT o))]) := by
  have hF := hF m o hm ho
  unfold gLeastC
  by_cases e : o = m
  · simp [e]
  · simp [e, hF]
theorem topF_ev (s0 s1 s3 : Option T) (m : List Int) (hm : m.length = n) (ms : List (List Int)) (hl : ∀ o ∈ ms, o.length = n) (hs : ms.length < 10000) :
    compF [4] (gmName 4) (gLeastC F) (sVar 4) (ms.map dT) [s0, s1, some (.z (dT m)), s3, none] [] = some ((ms.filter fun o => decide (o ≠ m) && R m o).map (fun v => .z (dT v)), [s0, s1, some (.z (dT m)), s3, none]) := by
  have go : ∀ (ms : List (List Int)) (acc : List T), acc.length + ms.length < 10000 → (∀ o ∈ ms, o.length = n) → compF [4] (gmName 4) (gLeastC F) (sVar 4) (ms.map dT) [s0, s1, some (.z (dT m)), s3, none] acc = some (acc ++ (ms.filter fun o => decide (o ≠ m) && R m o).map (fun v => .z (dT v)), [s0, s1, some (.z (dT m)), s3, none]) := by
    intro ms
    induction ms with
    | nil => intro acc _ _; simp [compF]
    | cons o ms ih =>
      intro acc hs hl
      have hlen : acc.length < sizeLine := by
        have := sizeLine_val
        simp at hs
        omega
      have hc := topC_ev R F n hF s0 s1 s3 m o hm (hl o List.mem_cons_self)
      have hg : gmName 4 (.z (dT o)) [s0, s1, some (.z (dT m)), s3, none] = some [s0, s1, some (.z (dT m)), s3, some (.z (dT o))] := rfl
      rw [List.map_cons]
      unfold compF
      simp only [hg, hc]
      cases hq : (decide (o ≠ m) && R m o)
      · have := ih acc (by simp at hs; omega) fun z hz => hl z (List.mem_cons_of_mem _ hz)
        simp only [List.filter_cons, hq]
        exact this
      · have := ih (acc ++ [.z (dT o)]) (by simp at hs ⊢; omega) fun z hz => hl z (List.mem_cons_of_mem _ hz)
        have hv : sVar 4 [s0, s1, some (.z (dT m)), s3, some (.z (dT o))] = some (.ok (.t (.z (dT o))) [s0, s1, some (.z (dT m)), s3, some (.z (dT o))]) := rfl
        simp only [List.filter_cons, hq, hv, Opd.take, if_pos hlen]
        refine Eq.trans this ?_
        simp
  simpa using go ms [] (by simpa using hs) hl
theorem lawTopB_ev (ms fs : List (List Int)) (m : List Int) (s3 : Option T) (hm : m.length = n) (hl : ∀ o ∈ ms, o.length = n) (hs : ms.length < 10000) (hf : fs.length < 10000) :
    ∃ s3' s4', gLeastB F [some (.z (LT ms)), some (.lst (fs.map fun v => .z (dT v))), some (.z (dT m)), s3, none] = some (.nx [some (.z (LT ms)), some (.lst ((if topB R ms m = true then fs ++ [m] else fs).map fun v => .z (dT v))), some (.z (dT m)), s3', s4']) ∧ s4' = none := by
  have e := topF_ev R F n hF (some (.z (LT ms))) (some (.lst (fs.map fun v => .z (dT v)))) s3 m hm ms hl hs
  have hlen : fs.length < sizeLine := Nat.lt_trans hf sizeLine_val
  obtain ⟨sm, hsm⟩ : ∃ sm, (ms.filter fun o => decide (o ≠ m) && R m o) = sm := ⟨_, rfl⟩
  rw [hsm] at e
  have hmin : topB R ms m = sm.isEmpty := by
    rw [← hsm, Bool.eq_iff_iff, topB_iff, List.isEmpty_iff, List.filter_eq_nil_iff]
    refine forall_congr' fun o => forall_congr' fun ho => ?_
    simp
    constructor
    · intro h hn
      cases hr : R m o
      · rfl
      · exact absurd (h hr) hn
    · intro h hr
      exact Classical.byContradiction fun hn => by rw [h hn] at hr; cases hr
  have e1 : sSet 3 (sLcN [4] 0 (gmName 4) (gLeastC F) (sVar 4)) [some (.z (LT ms)), some (.lst (fs.map fun v => .z (dT v))), some (.z (dT m)), s3, none] = some (.nx [some (.z (LT ms)), some (.lst (fs.map fun v => .z (dT v))), some (.z (dT m)), some (.lst (sm.map fun v => .z (dT v))), none]) := by
    have : sLcN [4] 0 (gmName 4) (gLeastC F) (sVar 4) [some (.z (LT ms)), some (.lst (fs.map fun v => .z (dT v))), some (.z (dT m)), s3, none] = some (.ok (.t (.lst (sm.map fun v => .z (dT v)))) [some (.z (LT ms)), some (.lst (fs.map fun v => .z (dT v))), some (.z (dT m)), s3, none]) := by
      rw [sLcN_ap]
      simp only [List.getElem?_cons_zero, T.els, T.elsL, wipeE]
      have : ([some (.z (LT ms)), some (.lst (fs.map fun v => .z (dT v))), some (.z (dT m)), s3, none] : En).set 4 none = [some (.z (LT ms)), some (.lst (fs.map fun v => .z (dT v))), some (.z (dT m)), s3, none] := rfl
      rw [this, e]
    rw [sSet_ap, this]
    rfl
  refine ⟨some (.lst (sm.map fun v => .z (dT v))), none, ?_, rfl⟩
  unfold gLeastB
  rw [sSeq_nx e1, hmin]
  cases sm with
  | nil => simp [hlen]
  | cons x xs =>
    have : ¬ ((xs.length : Int) + 1 = 0) := by omega
    simp [this]
end
/-- a loop over the sorted members that gathers the greatest -/
theorem gather_ev (B : SM) (ms : List (List Int)) (p : List Int → Bool) (n : Nat) (h0 : 0 < n) (hl : ∀ m ∈ ms, m.length = n) (hs : ms.length < 64) (I4 : Option T → Prop) (h4 : I4 none)
    (hB : ∀ (fs : List (List Int)) (m : List Int) (s3 s4 : Option T), m ∈ ms → fs.length < 10000 → I4 s4 → ∃ s3' s4', B [some (.z (LT ms)), some (.lst (fs.map fun v => .z (dT v))), some (.z (dT m)), s3, s4] = some (.nx [some (.z (LT ms)), some (.lst ((if p m = true then fs ++ [m] else fs).map fun v => .z (dT v))), some (.z (dT m)), s3', s4']) ∧ I4 s4') :
    fnOf 1 5 [] (sSeq (sSet 1 (sTake hLst sNil)) (sSeq (sFor (sO oSortSet (sCons true (sVar 0) sNil)) (gmName 2) B) (sRet (sVar 1)))) [.z (LT ms)] = some (.rt (.lst (((sortU ms).filter p).map fun v => .z (dT v))) []) := by
  have hne : ∀ m ∈ ms, m ≠ [] := fun m hm z => by have := hl m hm; rw [z] at this; simp at this; omega
  obtain ⟨e, h1, s2, s3, s4, h2, _⟩ := forF_inv (s := gmName 2) (g := B) (ds := (sortU ms).map dT) (fun q e => ∃ s2 s3 s4, e = [some (.z (LT ms)), some (.lst ((((sortU ms).take q.length).filter p).map fun v => .z (dT v))), s2, s3, s4] ∧ I4 s4) (env := [some (.z (LT ms)), some (.lst []), none, none, none]) ⟨none, none, none, rfl, h4⟩ fun q d r env hx i => by
    obtain ⟨s2, s3, s4, rfl, i4⟩ := i
    have hlt : q.length < (sortU ms).length := by
      have := congrArg List.length hx
      simp at this
      omega
    have hd : d = dT (sortU ms)[q.length] := by
      have := congrArg (fun l => l[q.length]?) hx
      simpa [hlt] using this.symm
    obtain ⟨m, hm⟩ : ∃ m, (sortU ms)[q.length] = m := ⟨_, rfl⟩
    have hmm : m ∈ ms := mem_sortU.mp (by rw [← hm]; exact List.getElem_mem hlt)
    rw [hm] at hd
    subst hd
    obtain ⟨s3', s4', hb, i4'⟩ := hB (((sortU ms).take q.length).filter p) m s3 s4 hmm (Nat.lt_of_le_of_lt (Nat.le_trans (List.length_filter_le _ _) (Nat.le_trans (List.length_take_le' _ _) (sortU_len ms))) (by omega)) i4
    refine ⟨_, _, rfl, .inl hb, some (.z (dT m)), s3', s4', ?_, i4'⟩
    have : (sortU ms).take (q ++ [dT m]).length = (sortU ms).take q.length ++ [m] := by
      rw [List.length_append, List.length_singleton, List.take_add_one, List.getElem?_eq_getElem hlt, hm]
      rfl
    rw [this, List.filter_append]
    cases hq : p m <;> simp [hq]
  rw [List.length_map, List.take_length] at h2
  subst h2
  refine fn_rt (e := [some (.z (LT ms)), none, s2, s3, s4]) rfl ?_
  have e1 : (sSet 1 (sTake hLst sNil)) [some (.z (LT ms)), none, none, none, none] = some (.nx [some (.z (LT ms)), some (.lst []), none, none, none]) := by simp
  have e2 : (sFor (sO oSortSet (sCons true (sVar 0) sNil)) (gmName 2) B) [some (.z (LT ms)), some (.lst []), none, none, none] = some (.nx [some (.z (LT ms)), some (.lst (((sortU ms).filter p).map fun v => .z (dT v))), s2, s3, s4]) := by
    have hS := oSortSet_ev [some (.z (LT ms)), some (.lst []), none, none, none] ms (.t (.z (LT ms))) (.z (LT ms)) rfl rfl hs hne
    rw [sFor_ap]
    simp only [sO_ap, sCons_ap, sVar_ap, List.getElem?_cons_zero, sNil_ap, Bool.true_or, if_true, hS, T.els, T.elsL, zs_mapz]
    exact h1
  exact (sSeq_nx e1).trans ((sSeq_nx e2).trans rfl)
end DL

namespace DL
open PySem PySem.Spec PyProof.Rows L2
/-! ### limits -/
def a1 (l x : Int) : Bool := decide (l < 0) || decide (x ≤ l)
def w1 (a b : Int) : Bool := decide (b < 0) || (decide (0 ≤ a) && decide (a ≤ b))
def lesI (a b : Int) : Int := if a < 0 then b else if b < 0 then a else if b < a then b else a
def admL (l x : List Int) : Bool := (List.range l.length).all fun k => a1 (l.getD k 0) (x.getD k 0)
def winL (a b : List Int) : Bool := (List.range a.length).all fun k => w1 (a.getD k 0) (b.getD k 0)
def lmeet (a b : List Int) : List Int := (List.range a.length).map fun k => lesI (a.getD k 0) (b.getD k 0)
theorem lmeet_len (a b : List Int) : (lmeet a b).length = a.length := by simp [lmeet]
theorem lmeet_get (a b : List Int) (k : Nat) (h : k < a.length) : (lmeet a b).getD k 0 = lesI (a.getD k 0) (b.getD k 0) := by simp [lmeet, h]
theorem admL_iff {l x : List Int} : admL l x = true ↔ ∀ k, k < l.length → a1 (l.getD k 0) (x.getD k 0) = true := by simp [admL]
theorem winL_iff {a b : List Int} : winL a b = true ↔ ∀ k, k < a.length → w1 (a.getD k 0) (b.getD k 0) = true := by simp [winL]
theorem a1_iff {l x : Int} : a1 l x = true ↔ l < 0 ∨ x ≤ l := by simp [a1]
theorem w1_iff {a b : Int} : w1 a b = true ↔ b < 0 ∨ (0 ≤ a ∧ a ≤ b) := by simp [w1]
/-- a limit of size n -/
def Lim (n : Nat) (l : List Int) : Prop := l.length = n ∧ ∀ x ∈ l, -1 ≤ x
theorem Lim.get {n : Nat} {l : List Int} (h : Lim n l) {k : Nat} (hk : k < n) : -1 ≤ l.getD k 0 := by
  have hk' : k < l.length := by rw [h.1]; exact hk
  have := h.2 l[k] (List.getElem_mem hk')
  simpa [hk'] using this
theorem win_refl (a : List Int) : winL a a = true := winL_iff.mpr fun k _ => w1_iff.mpr (by omega)
theorem win_trans {n : Nat} {a b c : List Int} (ha : a.length = n) (hb : b.length = n) (h1 : winL a b = true) (h2 : winL b c = true) : winL a c = true := winL_iff.mpr fun k hk => by
  have x := w1_iff.mp (winL_iff.mp h1 k hk)
  have y := w1_iff.mp (winL_iff.mp h2 k (by omega))
  exact w1_iff.mpr (by omega)
theorem win_anti {n : Nat} {a b : List Int} (ha : Lim n a) (hb : Lim n b) (h1 : winL a b = true) (h2 : winL b a = true) : a = b := by
  apply List.ext_getElem (by rw [ha.1, hb.1])
  intro k h3 h4
  have x := w1_iff.mp (winL_iff.mp h1 k h3)
  have y := w1_iff.mp (winL_iff.mp h2 k h4)
  have z1 := ha.get (k := k) (by rw [← ha.1]; exact h3)
  have z2 := hb.get (k := k) (by rw [← ha.1]; exact h3)
  simp only [List.getD_eq_getElem?_getD, List.getElem?_eq_getElem h3, List.getElem?_eq_getElem h4, Option.getD_some] at x y z1 z2
  omega
theorem adm_win {n : Nat} {a b x : List Int} (ha : a.length = n) (hb : b.length = n) (h1 : winL a b = true) (h2 : admL a x = true) : admL b x = true := admL_iff.mpr fun k hk => by
  have p := w1_iff.mp (winL_iff.mp h1 k (by omega))
  have q := a1_iff.mp (admL_iff.mp h2 k (by omega))
  exact a1_iff.mpr (by omega)
theorem adm_meet {n : Nat} {a b x : List Int} (ha : a.length = n) (hb : b.length = n) : admL (lmeet a b) x = (admL a x && admL b x) := by
  rw [Bool.eq_iff_iff, Bool.and_eq_true, admL_iff, admL_iff, admL_iff, lmeet_len]
  constructor
  · intro h
    refine ⟨fun k hk => ?_, fun k hk => ?_⟩ <;>
    · have z := h k (by omega)
      rw [lmeet_get a b k (by omega), a1_iff] at z
      rw [a1_iff]
      unfold lesI at z
      split at z
      · first | omega | skip
      · split at z
        · omega
        · split at z <;> omega
  · rintro ⟨h1, h2⟩ k hk
    have p := a1_iff.mp (h1 k hk)
    have q := a1_iff.mp (h2 k (by omega))
    rw [lmeet_get a b k hk, a1_iff]
    unfold lesI
    split
    · omega
    · split
      · omega
      · split <;> omega
theorem win_meet1 {n : Nat} {a b : List Int} (ha : Lim n a) (hb : Lim n b) : winL (lmeet a b) a = true := winL_iff.mpr fun k hk => by
  rw [lmeet_len] at hk
  rw [lmeet_get a b k hk, w1_iff]
  unfold lesI
  split
  · omega
  · split
    · omega
    · split <;> omega
theorem win_meet2 {n : Nat} {a b : List Int} (ha : Lim n a) (hb : Lim n b) : winL (lmeet a b) b = true := winL_iff.mpr fun k hk => by
  rw [lmeet_len] at hk
  rw [lmeet_get a b k hk, w1_iff]
  unfold lesI
  split
  · omega
  · split
    · omega
    · split <;> omega
theorem lim_meet {n : Nat} {a b : List Int} (ha : Lim n a) (hb : Lim n b) : Lim n (lmeet a b) := by
  refine ⟨by rw [lmeet_len, ha.1], fun x hx => ?_⟩
  simp only [lmeet, List.mem_map, List.mem_range] at hx
  obtain ⟨k, hk, rfl⟩ := hx
  have z1 := ha.get (k := k) (by rw [← ha.1]; exact hk)
  have z2 := hb.get (k := k) (by rw [← ha.1]; exact hk)
  unfold lesI
  split
  · exact z2
  · split
    · exact z1
    · split <;> assumption
/-! ### their readings -/
def ix (i j : Nat) : EM Opd := (sO oIx (sCons true (sVar i) (sCons true (sVar j) sNil)))
theorem ix02 (a b : List Int) (k : Nat) (h : k < a.length) : ix 0 2 [some (.z (dT a)), some (.z (dT b)), some (iT k)] = some (.ok (.t (iT (a.getD k 0))) [some (.z (dT a)), some (.z (dT b)), some (iT k)]) := by
  unfold ix
  simp [h]
theorem ix12 (a b : List Int) (k : Nat) (h : k < b.length) : ix 1 2 [some (.z (dT a)), some (.z (dT b)), some (iT k)] = some (.ok (.t (iT (b.getD k 0))) [some (.z (dT a)), some (.z (dT b)), some (iT k)]) := by
  unfold ix
  simp [h]
section
variable {env : En} {fa fb : EM Opd} {i j : Int} {p : Bool} (a : fa env = some (.ok (.t (iT i)) env)) (b : fb env = some (.ok (.t (iT j)) env))
include a b
theorem tGt : sTb (sO oGt (sCons p fa (sCons true fb sNil))) env = some (.ok (decide (j < i)) env) := by simp [a, b]
theorem tLt : sTb (sO oLt (sCons p fa (sCons true fb sNil))) env = some (.ok (decide (i < j)) env) := by simp [a, b]
theorem tGe : sTb (sO oGe (sCons p fa (sCons true fb sNil))) env = some (.ok (decide (j ≤ i)) env) := by simp [a, b]
theorem tEq : sTb (sO (oS gEq) (sCons p fa (sCons true fb sNil))) env = some (.ok (decide (i = j)) env) := by simp [a, b]
theorem tNe : sTb (sO (oS gNe) (sCons p fa (sCons true fb sNil))) env = some (.ok (!decide (i = j)) env) := by simp [a, b]
end
theorem tAnd {ta tb : EM Bool} {env : En} {x y : Bool} (a : ta env = some (.ok x env)) (b : tb env = some (.ok y env)) : sAnd ta tb env = some (.ok (x && y) env) := by
  rw [sAnd_ap, a]
  cases x
  · rfl
  · exact b
theorem tOr {ta tb : EM Bool} {env : En} {x y : Bool} (a : ta env = some (.ok x env)) (b : tb env = some (.ok y env)) : sOr ta tb env = some (.ok (x || y) env) := by
  rw [sOr_ap, a]
  cases x
  · exact b
  · rfl
def tAdmP : EM Bool := (sAnd (sTb (sO (oS gNe) (sCons true (ix 0 2) (sCons true (sC (.int (-1))) sNil)))) (sTb (sO oGt (sCons true (ix 1 2) (sCons true (ix 0 2) sNil)))))
def tAdmL : EM Bool := (sAnd (sTb (sO oGe (sCons true (ix 0 2) (sCons true (sC (.int 0)) sNil)))) (sTb (sO oGt (sCons true (ix 1 2) (sCons true (ix 0 2) sNil)))))
def tWinP : EM Bool := (sAnd (sTb (sO (oS gNe) (sCons true (ix 1 2) (sCons true (sC (.int (-1))) sNil)))) (sOr (sTb (sO (oS gEq) (sCons true (ix 0 2) (sCons true (sC (.int (-1))) sNil)))) (sTb (sO oGt (sCons true (ix 0 2) (sCons true (ix 1 2) sNil))))))
def tWinL : EM Bool := (sAnd (sTb (sO oGe (sCons true (ix 1 2) (sCons true (sC (.int 0)) sNil)))) (sOr (sTb (sO oLt (sCons true (ix 0 2) (sCons true (sC (.int 0)) sNil)))) (sTb (sO oGt (sCons true (ix 0 2) (sCons true (ix 1 2) sNil))))))
theorem admP_ev {n : Nat} (l x : List Int) (hl : Lim n l) (hx : x.length = n) (hn : n < 10000) : fnOf 2 3 [] (gAllIx tAdmP) [.z (dT l), .z (dT x)] = some (.rt (bT (admL l x)) []) := by
  refine allIx_ev tAdmP l x (fun k => a1 (l.getD k 0) (x.getD k 0)) (by rw [hl.1]; omega) fun k hk => ?_
  have hk2 : k < x.length := by rw [hx, ← hl.1]; exact hk
  have := hl.get (k := k) (by rw [← hl.1]; exact hk)
  refine (tAnd (tNe (ix02 l x k hk) rfl) (tGt (ix12 l x k hk2) (ix02 l x k hk))).trans ?_
  congr 2
  rw [Bool.eq_iff_iff]
  simp [a1, -List.getD_eq_getElem?_getD]
  omega
theorem admL_ev {n : Nat} (l x : List Int) (hl : l.length = n) (hx : x.length = n) (hn : n < 10000) : fnOf 2 3 [] (gAllIx tAdmL) [.z (dT l), .z (dT x)] = some (.rt (bT (admL l x)) []) := by
  refine allIx_ev tAdmL l x (fun k => a1 (l.getD k 0) (x.getD k 0)) (by omega) fun k hk => ?_
  have hk2 : k < x.length := by omega
  refine (tAnd (tGe (ix02 l x k hk) rfl) (tGt (ix12 l x k hk2) (ix02 l x k hk))).trans ?_
  congr 2
  rw [Bool.eq_iff_iff]
  simp [a1]
theorem winP_ev {n : Nat} (a b : List Int) (ha : Lim n a) (hb : Lim n b) (hn : n < 10000) : fnOf 2 3 [] (gAllIx tWinP) [.z (dT a), .z (dT b)] = some (.rt (bT (winL a b)) []) := by
  refine allIx_ev tWinP a b (fun k => w1 (a.getD k 0) (b.getD k 0)) (by rw [ha.1]; omega) fun k hk => ?_
  have hk2 : k < b.length := by rw [hb.1, ← ha.1]; exact hk
  have z1 := ha.get (k := k) (by rw [← ha.1]; exact hk)
  have z2 := hb.get (k := k) (by rw [← ha.1]; exact hk)
  refine (tAnd (tNe (ix12 a b k hk2) rfl) (tOr (tEq (ix02 a b k hk) rfl) (tGt (ix02 a b k hk) (ix12 a b k hk2)))).trans ?_
  congr 2
  rw [Bool.eq_iff_iff]
  simp [w1, -List.getD_eq_getElem?_getD]
  omega
theorem winL_ev {n : Nat} (a b : List Int) (ha : a.length = n) (hb : b.length = n) (hn : n < 10000) : fnOf 2 3 [] (gAllIx tWinL) [.z (dT a), .z (dT b)] = some (.rt (bT (winL a b)) []) := by
  refine allIx_ev tWinL a b (fun k => w1 (a.getD k 0) (b.getD k 0)) (by omega) fun k hk => ?_
  have hk2 : k < b.length := by omega
  refine (tAnd (tGe (ix12 a b k hk2) rfl) (tOr (tLt (ix02 a b k hk) rfl) (tGt (ix02 a b k hk) (ix12 a b k hk2)))).trans ?_
  congr 2
  rw [Bool.eq_iff_iff]
  simp [w1, -List.getD_eq_getElem?_getD]
  try omega
end DL

namespace DL
open PySem PySem.Spec PyProof.Rows L2
noncomputable abbrev FWinP : FSem := fnOf 2 3 [] (gAllIx tWinP)
noncomputable abbrev FWinL : FSem := fnOf 2 3 [] (gAllIx tWinL)
noncomputable abbrev FAdmP : FSem := fnOf 2 3 [] (gAllIx tAdmP)
noncomputable abbrev FAdmL : FSem := fnOf 2 3 [] (gAllIx tAdmL)
/-! ### frame_of -/
noncomputable def gFrI (F : FSem) : SM := (sIfS (sAnd (sTb (sO (oS gNe) (sCons true (sVar 4) (sCons true (sVar 2) sNil)))) (sTr (sCallL 2 F (sCons true (sVar 2) (sCons true (sVar 4) sNil)))))
        (sSet 3 (sC (.bl false)))
        sNext)
noncomputable def gFrB (F : FSem) : SM := (sSeq (sSet 3 (sC (.bl true)))
    (sSeq (sForN 0 (gmName 4) (gFrI F))
    (sIfS (sTr (sVar 3))
      (sApp 1 (sVar 2))
      sNext)))
theorem frI_loop (s0 s1 : Option T) (n : Nat) (hn : n < 10000) (m : List Int) (hm : Lim n m) : ∀ (ms : List (List Int)) (b : Bool) (o : Option T), (∀ f ∈ ms, Lim n f) → ∃ o', forF (gmName 4) (gFrI FWinP) (ms.map dT) [s0, s1, some (.z (dT m)), some (bT b), o] = some (.nx [s0, s1, some (.z (dT m)), some (bT (b && topB winL ms m)), o'])
  | [], b, o, _ => ⟨o, by simp [forF, topB]⟩
  | f :: ms, b, o, hl => by
    have hF : FWinP _ = _ := winP_ev m f hm (hl f List.mem_cons_self) hn
    have e : gFrI FWinP [s0, s1, some (.z (dT m)), some (bT b), some (.z (dT f))] = some (.nx [s0, s1, some (.z (dT m)), some (bT (b && !(decide (f ≠ m) && winL m f))), some (.z (dT f))]) := by
      unfold gFrI
      by_cases h : f = m
      · simp [h]
      · cases hw : winL m f <;> rw [hw] at hF <;> simp [h, hF]
    obtain ⟨o', ih⟩ := frI_loop s0 s1 n hn m hm ms (b && !(decide (f ≠ m) && winL m f)) (some (.z (dT f))) fun z hz => hl z (List.mem_cons_of_mem _ hz)
    refine ⟨o', ?_⟩
    have st : forF (gmName 4) (gFrI FWinP) ((f :: ms).map dT) [s0, s1, some (.z (dT m)), some (bT b), o] = (match gFrI FWinP [s0, s1, some (.z (dT m)), some (bT b), some (.z (dT f))] with
      | some (.nx e) => forF (gmName 4) (gFrI FWinP) (ms.map dT) e
      | some (.ct e) => forF (gmName 4) (gFrI FWinP) (ms.map dT) e
      | some (.bk e) => some (.nx e)
      | o => o) := rfl
    rw [st, e]
    refine ih.trans ?_
    unfold topB
    rw [List.all_cons, Bool.and_assoc]
noncomputable def gFr (F : FSem) : SM := (sSeq (sSet 1 (sTake hLst sNil)) (sSeq (sFor (sO oSortSet (sCons true (sVar 0) sNil)) (gmName 2) (gFrB F)) (sRet (sVar 1))))
theorem frame_ev (ms : List (List Int)) (n : Nat) (hn : n < 10000) (h0 : 0 < n) (hl : ∀ m ∈ ms, Lim n m) (hs : ms.length < 64) : fnOf 1 5 [] (gFr FWinP) [.z (LT ms)] = some (.rt (.lst ((topL winL ms).map fun v => .z (dT v))) []) := by
  refine gather_ev (gFrB FWinP) ms (topB winL ms) n h0 (fun m hm => (hl m hm).1) hs (fun _ => True) trivial fun fs m s3 s4 hm hf _ => ?_
  have hlen : fs.length < sizeLine := Nat.lt_trans hf sizeLine_val
  obtain ⟨o', hloop⟩ := frI_loop (some (.z (LT ms))) (some (.lst (fs.map fun v => .z (dT v)))) n hn m (hl m hm) ms true s4 hl
  rw [Bool.true_and] at hloop
  refine ⟨some (bT (topB winL ms m)), o', ?_, trivial⟩
  have e1 : (sSet 3 (sC (.bl true))) [some (.z (LT ms)), some (.lst (fs.map fun v => .z (dT v))), some (.z (dT m)), s3, s4] = some (.nx [some (.z (LT ms)), some (.lst (fs.map fun v => .z (dT v))), some (.z (dT m)), some (bT true), s4]) := rfl
  have e2 : (sForN 0 (gmName 4) (gFrI FWinP)) [some (.z (LT ms)), some (.lst (fs.map fun v => .z (dT v))), some (.z (dT m)), some (bT true), s4] = some (.nx [some (.z (LT ms)), some (.lst (fs.map fun v => .z (dT v))), some (.z (dT m)), some (bT (topB winL ms m)), o']) := hloop
  unfold gFrB
  rw [sSeq_nx e1, sSeq_nx e2]
  cases topB winL ms m
  · simp
  · simp [hlen]
theorem great_ev (ms : List (List Int)) (n : Nat) (hn : n < 10000) (h0 : 0 < n) (hl : ∀ m ∈ ms, m.length = n) (hs : ms.length < 64) : fnOf 1 5 [] (gLeast FWinL) [.z (LT ms)] = some (.rt (.lst ((topL winL ms).map fun v => .z (dT v))) []) := by
  refine gather_ev (gLeastB FWinL) ms (topB winL ms) n h0 hl hs (fun o => o = none) rfl fun fs m s3 s4 hm hf h4 => ?_
  subst h4
  exact lawTopB_ev winL FWinL n (fun a b ha hb => winL_ev a b ha hb hn) ms fs m s3 (hl m hm) hl (by omega) hf
/-! ### in_frame, admitted, held -/
noncomputable def tIn (F : FSem) : EM Bool := (sTr (sCallL 2 F (sCons true (sVar 2) (sCons true (sVar 1) sNil))))
noncomputable def tHe (F : FSem) : EM Bool := (sTr (sCallL 2 F (sCons true (sVar 1) (sCons true (sVar 2) sNil))))
def admS (ms : List (List Int)) (x : List Int) : Bool := ms.any fun l => admL l x
def heldS (ms : List (List Int)) (x : List Int) : Bool := ms.any fun l => winL x l
theorem inP_ev (ms : List (List Int)) (x : List Int) {n : Nat} (hn : n < 10000) (hl : ∀ m ∈ ms, Lim n m) (hx : x.length = n) : fnOf 2 3 [] (gAnyIt (tIn FAdmP)) [.z (LT ms), .z (dT x)] = some (.rt (bT (admS ms x)) []) :=
  anyIt_ev (tIn FAdmP) ms x (fun l => admL l x) fun m hm => by
    have hF : FAdmP _ = _ := admP_ev m x (hl m hm) hx hn
    unfold tIn
    simp [hF]
theorem inL_ev (ms : List (List Int)) (x : List Int) {n : Nat} (hn : n < 10000) (hl : ∀ m ∈ ms, m.length = n) (hx : x.length = n) : fnOf 2 3 [] (gAnyIt (tIn FAdmL)) [.z (LT ms), .z (dT x)] = some (.rt (bT (admS ms x)) []) :=
  anyIt_ev (tIn FAdmL) ms x (fun l => admL l x) fun m hm => by
    have hF : FAdmL _ = _ := admL_ev m x (hl m hm) hx hn
    unfold tIn
    simp [hF]
theorem held_ev (ms : List (List Int)) (x : List Int) {n : Nat} (hn : n < 10000) (hl : ∀ m ∈ ms, m.length = n) (hx : x.length = n) : fnOf 2 3 [] (gAnyIt (tHe FWinL)) [.z (LT ms), .z (dT x)] = some (.rt (bT (heldS ms x)) []) :=
  anyIt_ev (tHe FWinL) ms x (fun l => winL x l) fun m hm => by
    have hF : FWinL _ = _ := winL_ev x m hx (hl m hm) hn
    unfold tHe
    simp [hF]
/-! ### lesser, limit_meet, frame_meet -/
noncomputable def gLesP : SM :=
  (sSeq (sIfS (sTb (sO (oS gEq) (sCons true (sVar 0) (sCons true (sC (.int (-1))) sNil))))
    (sRet (sVar 1))
    sNext)
  (sSeq (sIfS (sTb (sO (oS gEq) (sCons true (sVar 1) (sCons true (sC (.int (-1))) sNil))))
    (sRet (sVar 0))
    sNext)
  (sRet (sO oMin2 (sCons true (sVar 0) (sCons true (sVar 1) sNil))))))
noncomputable def gLesL : SM :=
  (sSeq (sIfS (sTb (sO oLt (sCons true (sVar 0) (sCons true (sC (.int 0)) sNil))))
    (sRet (sVar 1))
    sNext)
  (sSeq (sIfS (sTb (sO oLt (sCons true (sVar 1) (sCons true (sC (.int 0)) sNil))))
    (sRet (sVar 0))
    sNext)
  (sRet (sO oMin2 (sCons true (sVar 0) (sCons true (sVar 1) sNil))))))
theorem lesP_ev (a b : Int) (ha : -1 ≤ a) (hb : -1 ≤ b) : fnOf 2 2 [] gLesP [iT a, iT b] = some (.rt (iT (lesI a b)) []) := by
  unfold gLesP lesI
  by_cases h1 : a = -1
  · subst h1
    simp [fnOf_ap]
  · have h1' : ¬ a < 0 := by omega
    by_cases h2 : b = -1
    · subst h2
      simp [fnOf_ap, h1, h1']
    · have h2' : ¬ b < 0 := by omega
      simp [fnOf_ap, h1, h1', h2, h2']
theorem lesL_ev (a b : Int) : fnOf 2 2 [] gLesL [iT a, iT b] = some (.rt (iT (lesI a b)) []) := by
  unfold gLesL lesI
  by_cases h1 : a < 0
  · simp [fnOf_ap, h1]
  · by_cases h2 : b < 0
    · simp [fnOf_ap, h1, h2]
    · simp [fnOf_ap, h1, h2]
noncomputable abbrev FLesP : FSem := fnOf 2 2 [] gLesP
noncomputable abbrev FLesL : FSem := fnOf 2 2 [] gLesL
noncomputable def gLMeet : SM := (sRet (sO oTupOf (sCons true (sLcR [2] gRng1 (sCons true (sO (oS gLen) (sCons true (sVar 0) sNil)) sNil) (gmName 2) sYes (sCallL 2 FLesP (sCons true (ix 0 2) (sCons true (ix 1 2) sNil)))) sNil)))
theorem lmeet_comp {n : Nat} (a b : List Int) (ha : Lim n a) (hb : Lim n b) (hn : n < 10000) : compF [2] (gmName 2) sYes (sCallL 2 FLesP (sCons true (ix 0 2) (sCons true (ix 1 2) sNil))) (rngD 0 a.length) [some (.z (dT a)), some (.z (dT b)), none] [] = some ((lmeet a b).map iT, [some (.z (dT a)), some (.z (dT b)), none]) := by
  have e := compF_map (own := [2]) (s := gmName 2) (fe := (sCallL 2 FLesP (sCons true (ix 0 2) (sCons true (ix 1 2) sNil)))) (fun k : Nat => D.int (0 + (k : Int))) (fun k : Nat => iT (lesI (a.getD k 0) (b.getD k 0))) (env := [some (.z (dT a)), some (.z (dT b)), none]) (List.range a.length) (by simp [ha.1, hn]) fun k hk => by
    have hk := List.mem_range.mp hk
    have hk2 : k < b.length := by rw [hb.1, ← ha.1]; exact hk
    have z1 := ha.get (k := k) (by rw [← ha.1]; exact hk)
    have z2 := hb.get (k := k) (by rw [← ha.1]; exact hk)
    have hF : FLesP _ = _ := lesP_ev _ _ z1 z2
    refine ⟨[some (.z (dT a)), some (.z (dT b)), some (iT k)], .t (iT (lesI (a.getD k 0) (b.getD k 0))), [some (.z (dT a)), some (.z (dT b)), some (iT k)], [some (.z (dT a)), some (.z (dT b)), some (iT k)], ?_, ?_, rfl, rfl⟩
    · rw [Int.zero_add]
      rfl
    · rw [sCallL_ap, sCons_ap, ix02 a b k hk]
      simp only [sCons_ap, ix12 a b k hk2, sNil_ap, Bool.true_or, if_true, rds, Opd.rd, T.er, List.length_cons, List.length_nil, List.map_cons, List.map_nil]
      rw [hF]
      rfl
  rw [rngD_map, e]
  simp [lmeet]
theorem limitMeet_ev {n : Nat} (a b : List Int) (ha : Lim n a) (hb : Lim n b) (hn : n < 10000) : fnOf 2 3 [] gLMeet [.z (dT a), .z (dT b)] = some (.rt (.z (dT (lmeet a b))) []) := by
  refine fn_rt (e := [some (.z (dT a)), some (.z (dT b)), none]) rfl ?_
  unfold gLMeet
  have hg := gRng1_ev a.length (by rw [ha.1]; omega)
  have e := lmeet_comp a b ha hb hn
  simp [-gRng1, hg, e]
noncomputable abbrev FLMeet : FSem := fnOf 2 3 [] gLMeet
noncomputable abbrev FFr : FSem := fnOf 1 5 [] (gFr FWinP)
def meets (A B : List (List Int)) : List (List Int) := (A.map fun a => B.map fun b => lmeet a b).flatten
theorem mem_meets {A B : List (List Int)} {m : List Int} : m ∈ meets A B ↔ ∃ a ∈ A, ∃ b ∈ B, m = lmeet a b := by
  simp only [meets, List.mem_flatten, List.mem_map]
  constructor
  · rintro ⟨l, ⟨a, ha, rfl⟩, h⟩
    obtain ⟨b, hb, rfl⟩ := List.mem_map.mp h
    exact ⟨a, ha, b, hb, rfl⟩
  · rintro ⟨a, ha, b, hb, rfl⟩
    exact ⟨_, ⟨a, ha, rfl⟩, List.mem_map.mpr ⟨b, hb, rfl⟩⟩
theorem meets_len (A B : List (List Int)) : (meets A B).length = A.length * B.length := by
  induction A with
  | nil => simp [meets]
  | cons a A ih =>
    have : meets (a :: A) B = (B.map fun b => lmeet a b) ++ meets A B := rfl
    rw [this, List.length_append, ih, List.length_map, List.length_cons, Nat.succ_mul]
    omega
theorem fmI_ev (dA : D) (a : List Int) (B : List (List Int)) (n : Nat) (hn : n < 10000) (ha : Lim n a) (hB : ∀ b ∈ B, Lim n b) (fs : List (List Int)) (o : Option T) (hs : fs.length + B.length < 10000) :
    ∃ o', sForN 1 (gmName 4) (gMeetB FLMeet) [some (.z dA), some (.z (LT B)), some (.lst (fs.map fun v => .z (dT v))), some (.z (dT a)), o] = some (.nx [some (.z dA), some (.z (LT B)), some (.lst ((fs ++ B.map fun b => lmeet a b).map fun v => .z (dT v))), some (.z (dT a)), o']) := by
  have go : ∀ (B' : List (List Int)) (fs : List (List Int)) (o : Option T), (∀ b ∈ B', Lim n b) → fs.length + B'.length < 10000 → ∃ o', forF (gmName 4) (gMeetB FLMeet) (B'.map dT) [some (.z dA), some (.z (LT B)), some (.lst (fs.map fun v => .z (dT v))), some (.z (dT a)), o] = some (.nx [some (.z dA), some (.z (LT B)), some (.lst ((fs ++ B'.map fun b => lmeet a b).map fun v => .z (dT v))), some (.z (dT a)), o']) := by
    intro B'
    induction B' with
    | nil => intro fs o _ _; exact ⟨o, by simp [forF]⟩
    | cons b B' ih =>
      intro fs o hb hs
      have hlen : fs.length < sizeLine := by
        have := sizeLine_val
        simp at hs
        omega
      have hF : FLMeet _ = _ := limitMeet_ev a b ha (hb b List.mem_cons_self) hn
      have hi := dT_imm (lmeet a b)
      have e : gMeetB FLMeet [some (.z dA), some (.z (LT B)), some (.lst (fs.map fun v => .z (dT v))), some (.z (dT a)), some (.z (dT b))] = some (.nx [some (.z dA), some (.z (LT B)), some (.lst ((fs ++ [lmeet a b]).map fun v => .z (dT v))), some (.z (dT a)), some (.z (dT b))]) := by
        unfold gMeetB
        simp [hF, hi, hlen]
      obtain ⟨o', ih⟩ := ih (fs ++ [lmeet a b]) (some (.z (dT b))) (fun z hz => hb z (List.mem_cons_of_mem _ hz)) (by simp at hs ⊢; omega)
      refine ⟨o', ?_⟩
      have st : forF (gmName 4) (gMeetB FLMeet) ((b :: B').map dT) [some (.z dA), some (.z (LT B)), some (.lst (fs.map fun v => .z (dT v))), some (.z (dT a)), o] = (match gMeetB FLMeet [some (.z dA), some (.z (LT B)), some (.lst (fs.map fun v => .z (dT v))), some (.z (dT a)), some (.z (dT b))] with
        | some (.nx e) => forF (gmName 4) (gMeetB FLMeet) (B'.map dT) e
        | some (.ct e) => forF (gmName 4) (gMeetB FLMeet) (B'.map dT) e
        | some (.bk e) => some (.nx e)
        | o => o) := rfl
      rw [st, e]
      refine ih.trans ?_
      simp
  obtain ⟨o', h⟩ := go B fs o hB hs
  exact ⟨o', h⟩
theorem frameMeet_ev (A B : List (List Int)) (n : Nat) (hn : n < 10000) (h0 : 0 < n) (hA : ∀ a ∈ A, Lim n a) (hB : ∀ b ∈ B, Lim n b) (hs : A.length * B.length < 64) :
    fnOf 2 5 [] (gMeet FLMeet FFr) [.z (LT A), .z (LT B)] = some (.rt (.lst ((topL winL (meets A B)).map fun v => .z (dT v))) []) := by
  have go : ∀ (A' : List (List Int)) (fs : List (List Int)) (o o2 : Option T), (∀ a ∈ A', Lim n a) → fs.length + A'.length * B.length < 10000 → ∃ o' o2', forF (gmName 3) (sForN 1 (gmName 4) (gMeetB FLMeet)) (A'.map dT) [some (.z (LT A)), some (.z (LT B)), some (.lst (fs.map fun v => .z (dT v))), o, o2] = some (.nx [some (.z (LT A)), some (.z (LT B)), some (.lst ((fs ++ meets A' B).map fun v => .z (dT v))), o', o2']) := by
    intro A'
    induction A' with
    | nil => intro fs o o2 _ _; exact ⟨o, o2, by simp [forF, meets]⟩
    | cons a A' ih =>
      intro fs o o2 ha hs
      rw [List.length_cons, Nat.succ_mul] at hs
      obtain ⟨o1, e⟩ := fmI_ev (LT A) a B n hn (ha a List.mem_cons_self) hB fs o2 (by omega)
      obtain ⟨o', o2', ih⟩ := ih (fs ++ B.map fun b => lmeet a b) (some (.z (dT a))) o1 (fun z hz => ha z (List.mem_cons_of_mem _ hz)) (by simp; omega)
      refine ⟨o', o2', ?_⟩
      have st : forF (gmName 3) (sForN 1 (gmName 4) (gMeetB FLMeet)) ((a :: A').map dT) [some (.z (LT A)), some (.z (LT B)), some (.lst (fs.map fun v => .z (dT v))), o, o2] = (match sForN 1 (gmName 4) (gMeetB FLMeet) [some (.z (LT A)), some (.z (LT B)), some (.lst (fs.map fun v => .z (dT v))), some (.z (dT a)), o2] with
        | some (.nx e) => forF (gmName 3) (sForN 1 (gmName 4) (gMeetB FLMeet)) (A'.map dT) e
        | some (.ct e) => forF (gmName 3) (sForN 1 (gmName 4) (gMeetB FLMeet)) (A'.map dT) e
        | some (.bk e) => some (.nx e)
        | o => o) := rfl
      rw [st, e]
      refine ih.trans ?_
      have : meets (a :: A') B = (B.map fun b => lmeet a b) ++ meets A' B := rfl
      rw [this, List.append_assoc]
  obtain ⟨o, o2, h⟩ := go A [] none none hA (by simp; omega)
  have hjl : ∀ m ∈ meets A B, Lim n m := fun m hm => by
    obtain ⟨a, ha, b, hb, rfl⟩ := mem_meets.mp hm
    exact lim_meet (hA a ha) (hB b hb)
  have hF : FFr _ = _ := frame_ev (meets A B) n hn h0 hjl (by rw [meets_len]; exact hs)
  refine fn_rt (e := [some (.z (LT A)), some (.z (LT B)), some (.lst ((meets A B).map fun v => .z (dT v))), o, o2]) rfl ?_
  have e1 : (sSet 2 (sTake hLst sNil)) [some (.z (LT A)), some (.z (LT B)), none, none, none] = some (.nx [some (.z (LT A)), some (.z (LT B)), some (.lst (([] : List (List Int)).map fun v => .z (dT v))), none, none]) := by simp
  have e2 : (sForN 0 (gmName 3) (sForN 1 (gmName 4) (gMeetB FLMeet))) [some (.z (LT A)), some (.z (LT B)), some (.lst (([] : List (List Int)).map fun v => .z (dT v))), none, none] = some (.nx [some (.z (LT A)), some (.z (LT B)), some (.lst ((meets A B).map fun v => .z (dT v))), o, o2]) := h
  have hc : (T.lst ((topL winL (meets A B)).map fun v => .z (dT v))).clean = true := by
    rw [T.clean]
    exact cleans_map _ dT_imm _
  have e3 : (sRet (sCallL 1 FFr (sCons true (sVar 2) sNil))) [some (.z (LT A)), some (.z (LT B)), some (.lst ((meets A B).map fun v => .z (dT v))), o, o2] = some (.rt (.lst ((topL winL (meets A B)).map fun v => .z (dT v))) [some (.z (LT A)), some (.z (LT B)), some (.lst ((meets A B).map fun v => .z (dT v))), o, o2]) := by
    simp [hF, hc]
  exact (sSeq_nx e1).trans ((sSeq_nx e2).trans e3)
end DL

namespace DL
open PySem PySem.Spec PyProof.Rows L2
/-! ### frame_within -/
noncomputable def gFwI (F : FSem) : SM := (sSet 3 (sOrV (sVar 3) (sCallL 2 F (sCons true (sVar 2) (sCons true (sVar 4) sNil)))))
noncomputable def gFwB (F : FSem) : SM := (sSeq (sSet 3 (sC (.bl false)))
    (sSeq (sForN 1 (gmName 4) (gFwI F))
    (sIfS (sNot (sTr (sVar 3)))
      (sRet (sC (.bl false)))
      sNext)))
noncomputable def gFw (F : FSem) : SM := (sSeq (sForN 0 (gmName 2) (gFwB F)) (sRet (sC (.bl true))))
theorem fwI_loop (s0 s1 : Option T) (n : Nat) (hn : n < 10000) (m : List Int) (hm : Lim n m) : ∀ (ms : List (List Int)) (b : Bool) (o : Option T), (∀ f ∈ ms, Lim n f) → ∃ o', forF (gmName 4) (gFwI FWinP) (ms.map dT) [s0, s1, some (.z (dT m)), some (bT b), o] = some (.nx [s0, s1, some (.z (dT m)), some (bT (b || heldS ms m)), o'])
  | [], b, o, _ => ⟨o, by simp [forF, heldS]⟩
  | f :: ms, b, o, hl => by
    have hF : FWinP _ = _ := winP_ev m f hm (hl f List.mem_cons_self) hn
    have e : gFwI FWinP [s0, s1, some (.z (dT m)), some (bT b), some (.z (dT f))] = some (.nx [s0, s1, some (.z (dT m)), some (bT (b || winL m f)), some (.z (dT f))]) := by
      unfold gFwI
      cases b <;> simp [hF]
    obtain ⟨o', ih⟩ := fwI_loop s0 s1 n hn m hm ms (b || winL m f) (some (.z (dT f))) fun z hz => hl z (List.mem_cons_of_mem _ hz)
    refine ⟨o', ?_⟩
    have st : forF (gmName 4) (gFwI FWinP) ((f :: ms).map dT) [s0, s1, some (.z (dT m)), some (bT b), o] = (match gFwI FWinP [s0, s1, some (.z (dT m)), some (bT b), some (.z (dT f))] with
      | some (.nx e) => forF (gmName 4) (gFwI FWinP) (ms.map dT) e
      | some (.ct e) => forF (gmName 4) (gFwI FWinP) (ms.map dT) e
      | some (.bk e) => some (.nx e)
      | o => o) := rfl
    rw [st, e]
    refine ih.trans ?_
    unfold heldS
    rw [List.any_cons, Bool.or_assoc]
theorem fw_ev (A B : List (List Int)) (n : Nat) (hn : n < 10000) (hA : ∀ a ∈ A, Lim n a) (hB : ∀ b ∈ B, Lim n b) : fnOf 2 5 [] (gFw FWinP) [.z (LT A), .z (LT B)] = some (.rt (bT (A.all fun a => heldS B a)) []) := by
  have go : ∀ (A' : List (List Int)) (o o3 o4 : Option T), (∀ a ∈ A', Lim n a) → ∃ e, forF (gmName 2) (gFwB FWinP) (A'.map dT) [some (.z (LT A)), some (.z (LT B)), o, o3, o4] = if (A'.all fun a => heldS B a) = true then some (.nx e) else some (.rt (bT false) e) := by
    intro A'
    induction A' with
    | nil => intro o o3 o4 _; exact ⟨_, rfl⟩
    | cons a A' ih =>
      intro o o3 o4 ha
      obtain ⟨o', hl⟩ := fwI_loop (some (.z (LT A))) (some (.z (LT B))) n hn a (ha a List.mem_cons_self) B false o4 hB
      rw [Bool.false_or] at hl
      have e : gFwB FWinP [some (.z (LT A)), some (.z (LT B)), some (.z (dT a)), o3, o4] = if heldS B a = true then some (.nx [some (.z (LT A)), some (.z (LT B)), some (.z (dT a)), some (bT true), o']) else some (.rt (bT false) [some (.z (LT A)), some (.z (LT B)), some (.z (dT a)), some (bT false), o']) := by
        unfold gFwB
        have e2 : (sForN 1 (gmName 4) (gFwI FWinP)) [some (.z (LT A)), some (.z (LT B)), some (.z (dT a)), some (bT false), o4] = some (.nx [some (.z (LT A)), some (.z (LT B)), some (.z (dT a)), some (bT (heldS B a)), o']) := hl
        rw [sSeq_nx (e := [some (.z (LT A)), some (.z (LT B)), some (.z (dT a)), some (bT false), o4]) rfl, sSeq_nx e2]
        cases heldS B a <;> simp
      have st : forF (gmName 2) (gFwB FWinP) ((a :: A').map dT) [some (.z (LT A)), some (.z (LT B)), o, o3, o4] = (match gFwB FWinP [some (.z (LT A)), some (.z (LT B)), some (.z (dT a)), o3, o4] with
        | some (.nx e) => forF (gmName 2) (gFwB FWinP) (A'.map dT) e
        | some (.ct e) => forF (gmName 2) (gFwB FWinP) (A'.map dT) e
        | some (.bk e) => some (.nx e)
        | o => o) := rfl
      rw [st, e, List.all_cons]
      cases hc : heldS B a
      · exact ⟨_, rfl⟩
      · obtain ⟨e, ih⟩ := ih (some (.z (dT a))) (some (bT true)) o' fun z hz => ha z (List.mem_cons_of_mem _ hz)
        exact ⟨e, ih⟩
  obtain ⟨e, h⟩ := go A none none none hA
  have e1 : (sForN 0 (gmName 2) (gFwB FWinP)) [some (.z (LT A)), some (.z (LT B)), none, none, none] = if (A.all fun a => heldS B a) = true then some (.nx e) else some (.rt (bT false) e) := h
  cases hc : (A.all fun a => heldS B a)
  · rw [hc] at e1
    exact fn_rt rfl (sSeq_rt e1)
  · rw [hc] at e1
    exact fn_rt rfl (sSeq_nx e1)
/-! ### limits drawn -/
noncomputable def gLimE (F : FSem) : EM Opd := (sO oSub (sCons true (sCallT 2 [true] F (sCons true (sVar 0) (sCons true (sO oAdd (sCons true (sVar 2) (sCons true (sC (.int 2)) sNil))) sNil))) (sCons true (sC (.int 1)) sNil)))
noncomputable def gLim (F : FSem) : SM := (sRet (sO oTupOf (sCons true (sLcR [3] gRng1 (sCons true (sVar 1) sNil) (gmName 3) sYes (gLimE F)) sNil)))
theorem lim_comp (n : Nat) (most : Int) (hm : 0 ≤ most) (hn : n < 10000) (xs : List Int) : ∃ (vs xs' : List Int), compF [3] (gmName 3) sYes (gLimE FTake) (rngD 0 n) [some (.lst (xs.map iT)), some (iT n), some (iT most), none] [] = some (vs.map iT, [some (.lst (xs'.map iT)), some (iT n), some (iT most), none]) ∧ Lim n vs := by
  obtain ⟨ts, e, h1, vs, xs', rfl, rfl, h2, h3⟩ := compF_inv (own := [3]) (s := gmName 3) (fc := sYes) (fe := gLimE FTake)
    (fun p acc env => ∃ vs xs' : List Int, acc = vs.map iT ∧ env = [some (.lst (xs'.map iT)), some (iT n), some (iT most), none] ∧ vs.length = p.length ∧ ∀ x ∈ vs, -1 ≤ x) (ds := rngD 0 n) (env := [some (.lst (xs.map iT)), some (iT n), some (iT most), none]) (by rw [rngD_length]; exact hn) ⟨[], xs, rfl, rfl, rfl, fun _ h => nomatch h⟩ fun p d q acc env _ _ i => by
      obtain ⟨vs, xs', rfl, rfl, hl, hd⟩ := i
      have hF := take_ev xs' (most + 2) (by omega)
      have hb := dtake_bd xs' (n := most + 2) (by omega)
      refine ⟨[some (.lst (xs'.map iT)), some (iT n), some (iT most), some (.z d)], rfl, .inl ⟨_, .t (iT ((dtake xs' (most + 2)).1 - 1)), [some (.lst ((dtake xs' (most + 2)).2.map iT)), some (iT n), some (iT most), some (.z d)], iT ((dtake xs' (most + 2)).1 - 1), _, rfl, ?_, rfl, vs ++ [(dtake xs' (most + 2)).1 - 1], (dtake xs' (most + 2)).2, by simp, rfl, by simp [hl], ?_⟩⟩
      · unfold gLimE
        simp [hF, FTake]
      · intro x hx
        rcases List.mem_append.mp hx with z | z
        · exact hd x z
        · rw [List.mem_singleton.mp z]; omega
  exact ⟨vs, xs', h1, by rw [h2, rngD_length], h3⟩
theorem lim_ev (n : Nat) (most : Int) (hm : 0 ≤ most) (hn : n < 10000) (xs : List Int) : ∃ (vs xs' : List Int), fnOf 3 4 [true] (gLim FTake) [.lst (xs.map iT), iT n, iT most] = some (.rt (.z (dT vs)) [.lst (xs'.map iT)]) ∧ Lim n vs := by
  obtain ⟨vs, xs', h1, h2⟩ := lim_comp n most hm hn xs
  refine ⟨vs, xs', fn_io (e := [some (.lst (xs'.map iT)), some (iT n), some (iT most), none]) rfl ?_ rfl, h2⟩
  unfold gLim
  have hg := gRng1_ev n (by omega)
  simp [-gRng1, hg, h1]
noncomputable abbrev FLim : FSem := fnOf 3 4 [true] (gLim FTake)
theorem lims_ev (n k : Nat) (most : Int) (hm : 0 ≤ most) (hn : n < 10000) (hk : k < 10000) (xs : List Int) : ∃ (vs : List (List Int)) (xs' : List Int), fnOf 4 5 [true] (gMarks FLim) [.lst (xs.map iT), iT n, iT k, iT most] = some (.rt (.lst (vs.map fun v => .z (dT v))) [.lst (xs'.map iT)]) ∧ vs.length = k ∧ ∀ v ∈ vs, Lim n v := by
  obtain ⟨ts, e, h1, vs, xs', rfl, rfl, h2, h3⟩ := compF_inv (own := [4]) (s := gmName 4) (fc := sYes) (fe := (sCallT 3 [true] FLim (sCons true (sVar 0) (sCons true (sVar 1) (sCons true (sVar 3) sNil)))))
    (fun p acc env => ∃ (vs : List (List Int)) (xs' : List Int), acc = vs.map (fun v => T.z (dT v)) ∧ env = [some (.lst (xs'.map iT)), some (iT n), some (iT k), some (iT most), none] ∧ vs.length = p.length ∧ ∀ v ∈ vs, Lim n v) (ds := rngD 0 k) (env := [some (.lst (xs.map iT)), some (iT n), some (iT k), some (iT most), none]) (by rw [rngD_length]; exact hk) ⟨[], xs, rfl, rfl, rfl, fun _ h => nomatch h⟩ fun p d q acc env _ _ i => by
      obtain ⟨vs, xs', rfl, rfl, hl, hd⟩ := i
      obtain ⟨v, ys, hF, b1⟩ := lim_ev n most hm hn xs'
      refine ⟨[some (.lst (xs'.map iT)), some (iT n), some (iT k), some (iT most), some (.z d)], rfl, .inl ⟨_, .t (.z (dT v)), [some (.lst (ys.map iT)), some (iT n), some (iT k), some (iT most), some (.z d)], .z (dT v), _, rfl, ?_, rfl, vs ++ [v], ys, by simp, rfl, by simp [hl], ?_⟩⟩
      · simp [hF, FLim]
      · intro x hx
        rcases List.mem_append.mp hx with z | z
        · exact hd x z
        · rw [List.mem_singleton.mp z]; exact b1
  refine ⟨vs, xs', fn_io (e := [some (.lst (xs'.map iT)), some (iT n), some (iT k), some (iT most), none]) rfl ?_ rfl, by rw [h2, rngD_length], h3⟩
  unfold gMarks
  have hg := gRng1_ev k (by omega)
  simp [-gRng1, hg, h1]
/-! ### raised -/
def rz (b x : Int) : Int := if 0 ≤ x then b + x else -1
def gRzE : EM Opd := (sIf (sTb (sO oGe (sCons true (sVar 3) (sCons true (sC (.int 0)) sNil)))) (sO oAdd (sCons true (sVar 1) (sCons true (sVar 3) sNil))) (sO (oS gNeg) (sCons true (sC (.int 1)) sNil)))
def gRzB : EM Opd := sO oTupOf (sCons true (sLcN [3] 2 (gmName 3) sYes gRzE) sNil)
def gRz : SM := (sRet (sLcN [2] 0 (gmName 2) sYes gRzB))
theorem rzE_ev (s0 s2 : Option T) (b x : Int) : gRzE [s0, some (iT b), s2, some (iT x)] = some (.ok (.t (iT (rz b x))) [s0, some (iT b), s2, some (iT x)]) := by
  unfold gRzE rz
  by_cases h : 0 ≤ x <;> simp [h]
theorem rzB_ev (d : D) (b : Int) (v : List Int) (hv : v.length < 10000) : gRzB [some (.z d), some (iT b), some (.z (dT v)), none] = some (.ok (.t (.z (dT (v.map (rz b))))) [some (.z d), some (iT b), some (.z (dT v)), none]) := by
  have h := compF_map (own := [3]) (s := gmName 3) (fe := gRzE) D.int (fun x => iT (rz b x)) (env := [some (.z d), some (iT b), some (.z (dT v)), none]) v hv fun x _ => ⟨[some (.z d), some (iT b), some (.z (dT v)), some (iT x)], .t (iT (rz b x)), [some (.z d), some (iT b), some (.z (dT v)), some (iT x)], [some (.z d), some (iT b), some (.z (dT v)), some (iT x)], rfl, rzE_ev _ _ b x, rfl, rfl⟩
  unfold gRzB
  simp [h]
theorem rz_ev (vs : List (List Int)) (b : Int) (hs : vs.length < 10000) (hv : ∀ v ∈ vs, v.length < 10000) : fnOf 2 4 [] gRz [.z (LT vs), iT b] = some (.rt (.lst ((vs.map fun v => v.map (rz b)).map fun v => .z (dT v))) []) := by
  have h := compF_map (own := [2]) (s := gmName 2) (fe := gRzB) dT (fun v => T.z (dT (v.map (rz b)))) (env := [some (.z (LT vs)), some (iT b), none, none]) vs hs fun x hx => ⟨[some (.z (LT vs)), some (iT b), some (.z (dT x)), none], .t (.z (dT (x.map (rz b)))), [some (.z (LT vs)), some (iT b), some (.z (dT x)), none], [some (.z (LT vs)), some (iT b), some (.z (dT x)), none], rfl, rzB_ev _ b x (hv x hx), rfl, rfl⟩
  refine fn_rt (e := [some (.z (LT vs)), some (iT b), none, none]) rfl ?_
  unfold gRz
  have e : sLcN [2] 0 (gmName 2) sYes gRzB [some (.z (LT vs)), some (iT b), none, none] = some (.ok (.t (.lst (vs.map fun v => T.z (dT (v.map (rz b)))))) [some (.z (LT vs)), some (iT b), none, none]) := by
    rw [sLcN_ap]
    simp only [List.getElem?_cons_zero, T.els, T.elsL, wipeE]
    have : ([some (.z (LT vs)), some (iT b), none, none] : En).set 2 none = [some (.z (LT vs)), some (iT b), none, none] := rfl
    rw [this, h]
  have e2 : sRet (sLcN [2] 0 (gmName 2) sYes gRzB) [some (.z (LT vs)), some (iT b), none, none] = some (.rt (.lst ((vs.map fun v => v.map (rz b)).map fun v => .z (dT v))) [some (.z (LT vs)), some (iT b), none, none]) := by
    rw [sRet_ap, e, List.map_map]
    rfl
  exact e2
theorem lim_rz {n : Nat} {b : Int} (hb : 0 ≤ b) {v : List Int} (h : Lim n v) : Lim n (v.map (rz b)) := by
  refine ⟨by rw [List.length_map]; exact h.1, fun x hx => ?_⟩
  obtain ⟨y, hy, rfl⟩ := List.mem_map.mp hx
  unfold rz
  split <;> omega
end DL

/-! a half's opening: draws, size, base -/
namespace DL
open PySem PySem.Spec PyProof.Rows L2
noncomputable abbrev FDraws : FSem := fnOf 2 9 [] gDraws
noncomputable abbrev FCell : FSem := fnOf 2 2 [] gCell
theorem hDraws (ns : List Int) (n : Nat) (hn : n < 10000) : ∃ xs : List Int, FDraws [.z (.kls (ns.map D.int)), iT n] = some (.rt (.lst (xs.map iT)) []) ∧ xs.length = n ∧ ∀ x ∈ xs, 0 ≤ x ∧ x < 1000 := draws_ev ns n hn
theorem hTake (xs : List Int) (n : Int) (hn : 0 < n) : FTake [.lst (xs.map iT), iT n] = some (.rt (iT (dtake xs n).1) [.lst ((dtake xs n).2.map iT)]) := take_ev xs n hn
theorem hCell (ns : List Int) (k : Nat) : FCell [.z (.kls (ns.map D.int)), iT k] = some (.rt (iT (ns.getD k 0)) []) := cell_ev ns k
theorem hMark (n : Nat) (most : Int) (hm : 0 ≤ most) (hn : n < 10000) (xs : List Int) : ∃ (vs xs' : List Int), FMark [.lst (xs.map iT), iT n, iT most] = some (.rt (.z (dT vs)) [.lst (xs'.map iT)]) ∧ vs.length = n ∧ Drawn most vs := mark_ev n most hm hn xs
theorem cl_dT (ms : List (List Int)) : (T.lst (ms.map fun v => .z (dT v))).clean = true := by
  rw [T.clean]
  exact cleans_map _ dT_imm _
theorem cl_int (xs : List Int) : (T.lst (xs.map iT)).clean = true := by
  rw [T.clean]
  exact cleans_map D.int (fun _ => rfl) _
section
variable (ns : List Int) (rest : En)
/-- the opening of a half: draws, size, base -/
theorem open1 (z : Int) (c : Nat) (hz : z = c) (hc : c < 10000) : ∃ xs : List Int, sSet 1 (sCallL 2 FDraws (sCons true (sVar 0) (sCons true (sC (.int z)) sNil))) (some (.z (.kls (ns.map D.int))) :: none :: rest) = some (.nx (some (.z (.kls (ns.map D.int))) :: some (.lst (xs.map iT)) :: rest)) := by
  subst hz
  obtain ⟨xs, h, _⟩ := hDraws ns c hc
  exact ⟨xs, by simp [h, cl_int]⟩
theorem open2 (s0 s2 : Option T) (xs : List Int) : ∃ (n : Nat) (xs' : List Int), 0 < n ∧ n < 100 ∧ sSet 2 (sO oIx (sCons false (sO oLst (sCons true (sC (.int 1)) (sCons true (sC (.int 2)) (sCons true (sC (.int 3)) (sCons true (sC (.int 4)) (sCons true (sC (.int 12)) sNil)))))) (sCons true (sCallT 2 [true] FTake (sCons true (sVar 1) (sCons true (sC (.int 5)) sNil))) sNil))) (s0 :: some (.lst (xs.map iT)) :: s2 :: rest) = some (.nx (s0 :: some (.lst (xs'.map iT)) :: some (iT n) :: rest)) := by
  have h := hTake xs 5 (by decide)
  have hb := dtake_bd xs (n := 5) (by decide)
  have h5 : 5 ≤ sizeLine := Nat.le_trans (by decide : 5 ≤ 10000) (Nat.le_of_lt sizeLine_val)
  generalize (dtake xs 5).1 = j at h hb
  have : ∃ n : Nat, 0 < n ∧ n < 100 ∧ atI [iT 1, iT 2, iT 3, iT 4, iT 12] j = some (iT n) := by
    have hj : j = 0 ∨ j = 1 ∨ j = 2 ∨ j = 3 ∨ j = 4 := by omega
    rcases hj with rfl | rfl | rfl | rfl | rfl
    · exact ⟨1, by decide, by decide, rfl⟩
    · exact ⟨2, by decide, by decide, rfl⟩
    · exact ⟨3, by decide, by decide, rfl⟩
    · exact ⟨4, by decide, by decide, rfl⟩
    · exact ⟨12, by decide, by decide, rfl⟩
  obtain ⟨n, h1, h2, h3⟩ := this
  exact ⟨n, (dtake xs 5).2, h1, h2, by simp [h, h3, h5]⟩
theorem open4 (s2 : Option T) (xs : List Int) : ∃ (b : Int) (xs' : List Int), 0 ≤ b ∧ sIfS (sTb (sO (oS gEq) (sCons true (sCallT 2 [true] FTake (sCons true (sVar 1) (sCons true (sC (.int 4)) sNil))) (sCons true (sC (.int 0)) sNil))))
    (sSet 3 (sO oMod (sCons true (sO (oS gInt) (sCons true (sCallL 2 FCell (sCons true (sVar 0) (sCons true (sC (.int 0)) sNil))) sNil)) (sCons true (sO oPow (sCons true (sC (.int 10)) (sCons true (sC (.int 30)) sNil))) sNil))))
    sNext (some (.z (.kls (ns.map D.int))) :: some (.lst (xs.map iT)) :: s2 :: some (iT 0) :: rest) = some (.nx (some (.z (.kls (ns.map D.int))) :: some (.lst (xs'.map iT)) :: s2 :: some (iT b) :: rest)) := by
  have h := hTake xs 4 (by decide)
  have hc := hCell ns 0
  rw [show ((0 : Nat) : Int) = 0 from rfl] at hc
  generalize ns.getD 0 0 = c at hc
  by_cases hj : (dtake xs 4).1 = 0
  · rw [hj] at h
    refine ⟨c % 1000000000000000000000000000000, (dtake xs 4).2, Int.emod_nonneg _ (by decide), ?_⟩
    simp [h, hc]
  · refine ⟨0, (dtake xs 4).2, by decide, ?_⟩
    simp [h, hj]
end

abbrev TL (ms : List (List Int)) : T := .lst (ms.map fun v => .z (dT v))
@[simp] theorem TL_er (ms : List (List Int)) : (TL ms).er = LT ms := by simp [TL]
@[simp] theorem ers_comp {α : Type} (f : α → D) (xs : List α) : T.ers (List.map (T.z ∘ f) xs) = xs.map f := ers_mapf f xs
@[simp] theorem zs_comp {α : Type} (f : α → D) (xs : List α) : zs (List.map (T.z ∘ f) xs) = some (xs.map f) := zs_mapz f xs
end DL

set_option maxHeartbeats 0
/-! printed by gen.py: the defs of netguild_k03_frame_meet_and_within, their semantics, their walks -/
namespace DL.k03
open PySem PySem.Spec PyProof.Rows L2 DL
def topS (i : Nat) : Stmt := PySem.Challenge.pw_netguild_k03_frame_meet_and_within.main.body.getD i (.Pass ⟨0, 0, 0, 0⟩)
abbrev s_admits : Stmt := topS 2
abbrev ps_admits : List Str := ["limit", "marking"]
abbrev N_admits : List Str := ["limit", "marking", "k"]
theorem sc_admits : FnScope N_admits ps_admits (defScope s_admits) := ⟨rfl, rfl, rfl, by decide +kernel, rfl, by decide +kernel, by decide +kernel⟩
noncomputable def g_admits : SM :=
  (sSeq (sForR gRng1 (sCons true (sO (oS gLen) (sCons true (sVar 0) sNil)) sNil) (gmName 2)
    (sIfS (sAnd (sTb (sO (oS gNe) (sCons true (sO oIx (sCons true (sVar 0) (sCons true (sVar 2) sNil))) (sCons true (sC (.int (-1))) sNil)))) (sTb (sO oGt (sCons true (sO oIx (sCons true (sVar 1) (sCons true (sVar 2) sNil))) (sCons true (sO oIx (sCons true (sVar 0) (sCons true (sVar 2) sNil))) sNil)))))
      (sRet (sC (.bl false)))
      sNext))
  (sRet (sC (.bl true))))
noncomputable def F_admits : FSem := fnOf 2 3 [] g_admits
abbrev s_within : Stmt := topS 3
abbrev ps_within : List Str := ["first", "second"]
abbrev N_within : List Str := ["first", "second", "k"]
theorem sc_within : FnScope N_within ps_within (defScope s_within) := ⟨rfl, rfl, rfl, by decide +kernel, rfl, by decide +kernel, by decide +kernel⟩
noncomputable def g_within : SM :=
  (sSeq (sForR gRng1 (sCons true (sO (oS gLen) (sCons true (sVar 0) sNil)) sNil) (gmName 2)
    (sIfS (sAnd (sTb (sO (oS gNe) (sCons true (sO oIx (sCons true (sVar 1) (sCons true (sVar 2) sNil))) (sCons true (sC (.int (-1))) sNil)))) (sOr (sTb (sO (oS gEq) (sCons true (sO oIx (sCons true (sVar 0) (sCons true (sVar 2) sNil))) (sCons true (sC (.int (-1))) sNil)))) (sTb (sO oGt (sCons true (sO oIx (sCons true (sVar 0) (sCons true (sVar 2) sNil))) (sCons true (sO oIx (sCons true (sVar 1) (sCons true (sVar 2) sNil))) sNil))))))
      (sRet (sC (.bl false)))
      sNext))
  (sRet (sC (.bl true))))
noncomputable def F_within : FSem := fnOf 2 3 [] g_within
abbrev s_frame_of : Stmt := topS 4
abbrev ps_frame_of : List Str := ["limits"]
abbrev N_frame_of : List Str := ["limits", "found", "limit", "greatest", "other"]
theorem sc_frame_of : FnScope N_frame_of ps_frame_of (defScope s_frame_of) := ⟨rfl, rfl, rfl, by decide +kernel, rfl, by decide +kernel, by decide +kernel⟩
noncomputable def g_frame_of : SM :=
  (sSeq (sSet 1 (sTake hLst sNil))
  (sSeq (sFor (sO oSortSet (sCons true (sVar 0) sNil)) (gmName 2)
    (sSeq (sSet 3 (sC (.bl true)))
    (sSeq (sForN 0 (gmName 4)
      (sIfS (sAnd (sTb (sO (oS gNe) (sCons true (sVar 4) (sCons true (sVar 2) sNil)))) (sTr (sCallL 2 F_within (sCons true (sVar 2) (sCons true (sVar 4) sNil)))))
        (sSet 3 (sC (.bl false)))
        sNext))
    (sIfS (sTr (sVar 3))
      (sApp 1 (sVar 2))
      sNext))))
  (sRet (sVar 1))))
noncomputable def F_frame_of : FSem := fnOf 1 5 [] g_frame_of
abbrev s_in_frame : Stmt := topS 5
abbrev ps_in_frame : List Str := ["limits", "marking"]
abbrev N_in_frame : List Str := ["limits", "marking", "limit"]
theorem sc_in_frame : FnScope N_in_frame ps_in_frame (defScope s_in_frame) := ⟨rfl, rfl, rfl, by decide +kernel, rfl, by decide +kernel, by decide +kernel⟩
noncomputable def g_in_frame : SM :=
  (sSeq (sForN 0 (gmName 2)
    (sIfS (sTr (sCallL 2 F_admits (sCons true (sVar 2) (sCons true (sVar 1) sNil))))
      (sRet (sC (.bl true)))
      sNext))
  (sRet (sC (.bl false))))
noncomputable def F_in_frame : FSem := fnOf 2 3 [] g_in_frame
abbrev s_zlaw_draws : Stmt := topS 11
abbrev ps_zlaw_draws : List Str := ["script", "count"]
abbrev N_zlaw_draws : List Str := ["script", "count", "cells", "found", "mixed", "k", "j", "cell", "again"]
theorem sc_zlaw_draws : FnScope N_zlaw_draws ps_zlaw_draws (defScope s_zlaw_draws) := ⟨rfl, rfl, rfl, by decide +kernel, rfl, by decide +kernel, by decide +kernel⟩
noncomputable def g_zlaw_draws : SM :=
  (sSeq (sSet 2 (sO oListOf (sCons true (sVar 0) sNil)))
  (sSeq (sIfS (sTb (sO (oS gEq) (sCons true (sO (oS gLen) (sCons true (sVar 2) sNil)) (sCons true (sC (.int 0)) sNil))))
    (sSet 2 (sO oLst (sCons true (sC (.int 7)) sNil)))
    sNext)
  (sSeq (sSet 3 (sTake hLst sNil))
  (sSeq (sSet 4 (sC (.int 12345)))
  (sSeq (sForR gRng1 (sCons true (sVar 1) sNil) (gmName 5)
    (sSeq (sSet 6 (sO oMod (sCons true (sVar 5) (sCons true (sO (oS gLen) (sCons true (sVar 2) sNil)) sNil))))
    (sSeq (sSet 7 (sO oIx (sCons true (sVar 2) (sCons true (sVar 6) sNil))))
    (sSeq (sSet 4 (sO oMod (sCons true (sO (oS gInt) (sCons true (sO oAdd (sCons true (sO oAdd (sCons true (sO oAdd (sCons true (sO oMul (sCons true (sVar 4) (sCons true (sC (.int 48271)) sNil))) (sCons true (sO oMul (sCons true (sO oMod (sCons true (sO (oS gInt) (sCons true (sVar 7) sNil)) (sCons true (sC (.int 1000003)) sNil))) (sCons true (sC (.int 69621)) sNil))) sNil))) (sCons true (sO oMul (sCons true (sVar 5) (sCons true (sC (.int 7919)) sNil))) sNil))) (sCons true (sC (.int 11)) sNil))) sNil)) (sCons true (sC (.int 2147483647)) sNil))))
    (sSeq (sSet 8 (sO oMod (sCons true (sO (oS gInt) (sCons true (sO oAdd (sCons true (sO oAdd (sCons true (sO oMul (sCons true (sVar 4) (sCons true (sVar 4) sNil))) (sCons true (sO oMul (sCons true (sC (.int 31)) (sCons true (sVar 4) sNil))) sNil))) (sCons true (sVar 5) sNil))) sNil)) (sCons true (sC (.int 1000003)) sNil))))
    (sIfS (sTb (sO oGe (sCons true (sVar 7) (sCons true (sO oPow (sCons true (sC (.int 10)) (sCons true (sC (.int 18)) sNil))) sNil))))
      (sSeq (sApp 3 (sO oMod (sCons true (sO (oS gInt) (sCons true (sVar 7) sNil)) (sCons true (sC (.int 1000)) sNil))))
      (sSetAt 2 (sCons true (sO oDiv (sCons true (sVar 7) (sCons true (sC (.int 1000)) sNil))) (sCons true (sVar 6) sNil))))
      (sApp 3 (sO oMod (sCons true (sO (oS gInt) (sCons true (sVar 8) sNil)) (sCons true (sC (.int 1000)) sNil))))))))))
  (sSeq (sRev 3)
  (sRet (sVar 3))))))))
noncomputable def F_zlaw_draws : FSem := fnOf 2 9 [] g_zlaw_draws
abbrev s_zlaw_take : Stmt := topS 12
abbrev ps_zlaw_take : List Str := ["draws", "limit"]
abbrev N_zlaw_take : List Str := ["draws", "limit"]
theorem sc_zlaw_take : FnScope N_zlaw_take ps_zlaw_take (defScope s_zlaw_take) := ⟨rfl, rfl, rfl, by decide +kernel, rfl, by decide +kernel, by decide +kernel⟩
noncomputable def g_zlaw_take : SM :=
  (sSeq (sIfS (sTb (sO (oS gEq) (sCons true (sO (oS gLen) (sCons true (sVar 0) sNil)) (sCons true (sC (.int 0)) sNil))))
    (sRet (sC (.int 0)))
    sNext)
  (sRet (sO oMod (sCons true (sO (oS gInt) (sCons true (sPop 0) sNil)) (sCons true (sVar 1) sNil)))))
noncomputable def F_zlaw_take : FSem := fnOf 2 2 [true] g_zlaw_take
abbrev s_zlaw_is_integer : Stmt := topS 13
abbrev ps_zlaw_is_integer : List Str := ["actual"]
abbrev N_zlaw_is_integer : List Str := ["actual"]
theorem sc_zlaw_is_integer : FnScope N_zlaw_is_integer ps_zlaw_is_integer (defScope s_zlaw_is_integer) := ⟨rfl, rfl, rfl, by decide +kernel, rfl, by decide +kernel, by decide +kernel⟩
noncomputable def g_zlaw_is_integer : SM :=
  (sRet (sAndV (sO (oS (gIsi "int")) (sCons true (sVar 0) sNil)) (sO (oS gNot) (sCons true (sO (oS (gIsi "bool")) (sCons true (sVar 0) sNil)) sNil))))
noncomputable def F_zlaw_is_integer : FSem := fnOf 1 1 [] g_zlaw_is_integer
abbrev s_zlaw_numbers : Stmt := topS 14
abbrev ps_zlaw_numbers : List Str := ["actual", "size", "low"]
abbrev N_zlaw_numbers : List Str := ["actual", "size", "low", "item"]
theorem sc_zlaw_numbers : FnScope N_zlaw_numbers ps_zlaw_numbers (defScope s_zlaw_numbers) := ⟨rfl, rfl, rfl, by decide +kernel, rfl, by decide +kernel, by decide +kernel⟩
noncomputable def g_zlaw_numbers : SM :=
  (sSeq (sIfS (sOr (sNot (sTr (sO (oS (gIsi "tuple")) (sCons true (sVar 0) sNil)))) (sTb (sO (oS gNe) (sCons true (sO (oS gLen) (sCons true (sVar 0) sNil)) (sCons true (sVar 1) sNil)))))
    (sRet (sC (.bl false)))
    sNext)
  (sSeq (sForN 0 (gmName 3)
    (sIfS (sOr (sNot (sTr (sCallL 1 F_zlaw_is_integer (sCons true (sVar 3) sNil)))) (sTb (sO oLt (sCons true (sVar 3) (sCons true (sVar 2) sNil)))))
      (sRet (sC (.bl false)))
      sNext))
  (sRet (sC (.bl true)))))
noncomputable def F_zlaw_numbers : FSem := fnOf 3 4 [] g_zlaw_numbers
abbrev s_zlaw_all_numbers : Stmt := topS 15
abbrev ps_zlaw_all_numbers : List Str := ["actual", "size", "low"]
abbrev N_zlaw_all_numbers : List Str := ["actual", "size", "low", "item"]
theorem sc_zlaw_all_numbers : FnScope N_zlaw_all_numbers ps_zlaw_all_numbers (defScope s_zlaw_all_numbers) := ⟨rfl, rfl, rfl, by decide +kernel, rfl, by decide +kernel, by decide +kernel⟩
noncomputable def g_zlaw_all_numbers : SM :=
  (sSeq (sIfS (sNot (sTr (sO (oS (gIsi "list")) (sCons true (sVar 0) sNil))))
    (sRet (sC (.bl false)))
    sNext)
  (sSeq (sForN 0 (gmName 3)
    (sIfS (sNot (sTr (sCallL 3 F_zlaw_numbers (sCons true (sVar 3) (sCons true (sVar 1) (sCons true (sVar 2) sNil))))))
      (sRet (sC (.bl false)))
      sNext))
  (sRet (sC (.bl true)))))
noncomputable def F_zlaw_all_numbers : FSem := fnOf 3 4 [] g_zlaw_all_numbers
abbrev s_zlaw_marking : Stmt := topS 16
abbrev ps_zlaw_marking : List Str := ["draws", "size", "most"]
abbrev N_zlaw_marking : List Str := ["draws", "size", "most", "k"]
theorem sc_zlaw_marking : FnScope N_zlaw_marking ps_zlaw_marking (defScope s_zlaw_marking) := ⟨rfl, rfl, rfl, by decide +kernel, rfl, by decide +kernel, by decide +kernel⟩
noncomputable def g_zlaw_marking : SM :=
  (sRet (sO oTupOf (sCons true (sLcR [3] gRng1 (sCons true (sVar 1) sNil) (gmName 3) sYes (sCallT 2 [true] F_zlaw_take (sCons true (sVar 0) (sCons true (sO oAdd (sCons true (sVar 2) (sCons true (sC (.int 1)) sNil))) sNil)))) sNil)))
noncomputable def F_zlaw_marking : FSem := fnOf 3 4 [true] g_zlaw_marking
abbrev s_zlaw_limit : Stmt := topS 17
abbrev ps_zlaw_limit : List Str := ["draws", "size", "most"]
abbrev N_zlaw_limit : List Str := ["draws", "size", "most", "k"]
theorem sc_zlaw_limit : FnScope N_zlaw_limit ps_zlaw_limit (defScope s_zlaw_limit) := ⟨rfl, rfl, rfl, by decide +kernel, rfl, by decide +kernel, by decide +kernel⟩
noncomputable def g_zlaw_limit : SM :=
  (sRet (sO oTupOf (sCons true (sLcR [3] gRng1 (sCons true (sVar 1) sNil) (gmName 3) sYes (sO oSub (sCons true (sCallT 2 [true] F_zlaw_take (sCons true (sVar 0) (sCons true (sO oAdd (sCons true (sVar 2) (sCons true (sC (.int 2)) sNil))) sNil))) (sCons true (sC (.int 1)) sNil)))) sNil)))
noncomputable def F_zlaw_limit : FSem := fnOf 3 4 [true] g_zlaw_limit
abbrev s_zlaw_limits : Stmt := topS 18
abbrev ps_zlaw_limits : List Str := ["draws", "size", "count", "most"]
abbrev N_zlaw_limits : List Str := ["draws", "size", "count", "most", "k"]
theorem sc_zlaw_limits : FnScope N_zlaw_limits ps_zlaw_limits (defScope s_zlaw_limits) := ⟨rfl, rfl, rfl, by decide +kernel, rfl, by decide +kernel, by decide +kernel⟩
noncomputable def g_zlaw_limits : SM :=
  (sRet (sLcR [4] gRng1 (sCons true (sVar 2) sNil) (gmName 4) sYes (sCallT 3 [true] F_zlaw_limit (sCons true (sVar 0) (sCons true (sVar 1) (sCons true (sVar 3) sNil))))))
noncomputable def F_zlaw_limits : FSem := fnOf 4 5 [true] g_zlaw_limits
abbrev s_zlaw_admits : Stmt := topS 19
abbrev ps_zlaw_admits : List Str := ["limit", "marking"]
abbrev N_zlaw_admits : List Str := ["limit", "marking", "k"]
theorem sc_zlaw_admits : FnScope N_zlaw_admits ps_zlaw_admits (defScope s_zlaw_admits) := ⟨rfl, rfl, rfl, by decide +kernel, rfl, by decide +kernel, by decide +kernel⟩
noncomputable def g_zlaw_admits : SM :=
  (sSeq (sForR gRng1 (sCons true (sO (oS gLen) (sCons true (sVar 0) sNil)) sNil) (gmName 2)
    (sIfS (sAnd (sTb (sO oGe (sCons true (sO oIx (sCons true (sVar 0) (sCons true (sVar 2) sNil))) (sCons true (sC (.int 0)) sNil)))) (sTb (sO oGt (sCons true (sO oIx (sCons true (sVar 1) (sCons true (sVar 2) sNil))) (sCons true (sO oIx (sCons true (sVar 0) (sCons true (sVar 2) sNil))) sNil)))))
      (sRet (sC (.bl false)))
      sNext))
  (sRet (sC (.bl true))))
noncomputable def F_zlaw_admits : FSem := fnOf 2 3 [] g_zlaw_admits
abbrev s_zlaw_admitted : Stmt := topS 20
abbrev ps_zlaw_admitted : List Str := ["limits", "marking"]
abbrev N_zlaw_admitted : List Str := ["limits", "marking", "limit"]
theorem sc_zlaw_admitted : FnScope N_zlaw_admitted ps_zlaw_admitted (defScope s_zlaw_admitted) := ⟨rfl, rfl, rfl, by decide +kernel, rfl, by decide +kernel, by decide +kernel⟩
noncomputable def g_zlaw_admitted : SM :=
  (sSeq (sForN 0 (gmName 2)
    (sIfS (sTr (sCallL 2 F_zlaw_admits (sCons true (sVar 2) (sCons true (sVar 1) sNil))))
      (sRet (sC (.bl true)))
      sNext))
  (sRet (sC (.bl false))))
noncomputable def F_zlaw_admitted : FSem := fnOf 2 3 [] g_zlaw_admitted
abbrev s_zlaw_within : Stmt := topS 21
abbrev ps_zlaw_within : List Str := ["first", "second"]
abbrev N_zlaw_within : List Str := ["first", "second", "k"]
theorem sc_zlaw_within : FnScope N_zlaw_within ps_zlaw_within (defScope s_zlaw_within) := ⟨rfl, rfl, rfl, by decide +kernel, rfl, by decide +kernel, by decide +kernel⟩
noncomputable def g_zlaw_within : SM :=
  (sSeq (sForR gRng1 (sCons true (sO (oS gLen) (sCons true (sVar 0) sNil)) sNil) (gmName 2)
    (sIfS (sAnd (sTb (sO oGe (sCons true (sO oIx (sCons true (sVar 1) (sCons true (sVar 2) sNil))) (sCons true (sC (.int 0)) sNil)))) (sOr (sTb (sO oLt (sCons true (sO oIx (sCons true (sVar 0) (sCons true (sVar 2) sNil))) (sCons true (sC (.int 0)) sNil)))) (sTb (sO oGt (sCons true (sO oIx (sCons true (sVar 0) (sCons true (sVar 2) sNil))) (sCons true (sO oIx (sCons true (sVar 1) (sCons true (sVar 2) sNil))) sNil))))))
      (sRet (sC (.bl false)))
      sNext))
  (sRet (sC (.bl true))))
noncomputable def F_zlaw_within : FSem := fnOf 2 3 [] g_zlaw_within
abbrev s_zlaw_greatest : Stmt := topS 22
abbrev ps_zlaw_greatest : List Str := ["limits"]
abbrev N_zlaw_greatest : List Str := ["limits", "found", "limit", "greater", "other"]
theorem sc_zlaw_greatest : FnScope N_zlaw_greatest ps_zlaw_greatest (defScope s_zlaw_greatest) := ⟨rfl, rfl, rfl, by decide +kernel, rfl, by decide +kernel, by decide +kernel⟩
noncomputable def g_zlaw_greatest : SM :=
  (sSeq (sSet 1 (sTake hLst sNil))
  (sSeq (sFor (sO oSortSet (sCons true (sVar 0) sNil)) (gmName 2)
    (sSeq (sSet 3 (sLcN [4] 0 (gmName 4) (sAnd (sTb (sO (oS gNe) (sCons true (sVar 4) (sCons true (sVar 2) sNil)))) (sTr (sCallL 2 F_zlaw_within (sCons true (sVar 2) (sCons true (sVar 4) sNil))))) (sVar 4)))
    (sIfS (sTb (sO (oS gEq) (sCons true (sO (oS gLen) (sCons true (sVar 3) sNil)) (sCons true (sC (.int 0)) sNil))))
      (sApp 1 (sVar 2))
      sNext)))
  (sRet (sVar 1))))
noncomputable def F_zlaw_greatest : FSem := fnOf 1 5 [] g_zlaw_greatest
abbrev s_zlaw_cell : Stmt := topS 23
abbrev ps_zlaw_cell : List Str := ["script", "k"]
abbrev N_zlaw_cell : List Str := ["script", "k"]
theorem sc_zlaw_cell : FnScope N_zlaw_cell ps_zlaw_cell (defScope s_zlaw_cell) := ⟨rfl, rfl, rfl, by decide +kernel, rfl, by decide +kernel, by decide +kernel⟩
noncomputable def g_zlaw_cell : SM :=
  (sSeq (sIfS (sTb (sO oLt (sCons true (sVar 1) (sCons true (sO (oS gLen) (sCons true (sVar 0) sNil)) sNil))))
    (sRet (sO oIx (sCons true (sVar 0) (sCons true (sVar 1) sNil))))
    sNext)
  (sRet (sC (.int 0))))
noncomputable def F_zlaw_cell : FSem := fnOf 2 2 [] g_zlaw_cell
abbrev s_zlaw_raised : Stmt := topS 24
abbrev ps_zlaw_raised : List Str := ["limits", "base"]
abbrev N_zlaw_raised : List Str := ["limits", "base", "limit", "number"]
theorem sc_zlaw_raised : FnScope N_zlaw_raised ps_zlaw_raised (defScope s_zlaw_raised) := ⟨rfl, rfl, rfl, by decide +kernel, rfl, by decide +kernel, by decide +kernel⟩
noncomputable def g_zlaw_raised : SM :=
  (sRet (sLcN [2] 0 (gmName 2) sYes (sO oTupOf (sCons true (sLcN [3] 2 (gmName 3) sYes (sIf (sTb (sO oGe (sCons true (sVar 3) (sCons true (sC (.int 0)) sNil)))) (sO oAdd (sCons true (sVar 1) (sCons true (sVar 3) sNil))) (sO (oS gNeg) (sCons true (sC (.int 1)) sNil)))) sNil))))
noncomputable def F_zlaw_raised : FSem := fnOf 2 4 [] g_zlaw_raised
abbrev s_zlaw_first_half : Stmt := topS 27
abbrev ps_zlaw_first_half : List Str := ["script"]
abbrev N_zlaw_first_half : List Str := ["script", "draws", "size", "base", "limits", "limit", "marking", "passed", "found", "answer", "other", "one", "two", "three", "number"]
theorem sc_zlaw_first_half : FnScope N_zlaw_first_half ps_zlaw_first_half (defScope s_zlaw_first_half) := ⟨rfl, rfl, rfl, by decide +kernel, rfl, by decide +kernel, by decide +kernel⟩
noncomputable def g_zlaw_first_half : SM :=
  (sSeq (sSet 1 (sCallL 2 F_zlaw_draws (sCons true (sVar 0) (sCons true (sC (.int 220)) sNil))))
  (sSeq (sSet 2 (sO oIx (sCons false (sO oLst (sCons true (sC (.int 1)) (sCons true (sC (.int 2)) (sCons true (sC (.int 3)) (sCons true (sC (.int 4)) (sCons true (sC (.int 12)) sNil)))))) (sCons true (sCallT 2 [true] F_zlaw_take (sCons true (sVar 1) (sCons true (sC (.int 5)) sNil))) sNil))))
  (sSeq (sSet 3 (sC (.int 0)))
  (sSeq (sIfS (sTb (sO (oS gEq) (sCons true (sCallT 2 [true] F_zlaw_take (sCons true (sVar 1) (sCons true (sC (.int 4)) sNil))) (sCons true (sC (.int 0)) sNil))))
    (sSet 3 (sO oMod (sCons true (sO (oS gInt) (sCons true (sCallL 2 F_zlaw_cell (sCons true (sVar 0) (sCons true (sC (.int 0)) sNil))) sNil)) (sCons true (sO oPow (sCons true (sC (.int 10)) (sCons true (sC (.int 30)) sNil))) sNil))))
    sNext)
  (sSeq (sSet 4 (sCallL 2 F_zlaw_raised (sCons true (sCallT 4 [true] F_zlaw_limits (sCons false (sVar 1) (sCons false (sVar 2) (sCons true (sCallT 2 [true] F_zlaw_take (sCons true (sVar 1) (sCons true (sC (.int 9)) sNil))) (sCons true (sC (.int 3)) sNil))))) (sCons true (sVar 3) sNil))))
  (sSeq (sIfS (sAnd (sTb (sO oGt (sCons true (sO (oS gLen) (sCons true (sVar 4) sNil)) (sCons true (sC (.int 0)) sNil)))) (sTb (sO (oS gEq) (sCons true (sCallT 2 [true] F_zlaw_take (sCons true (sVar 1) (sCons true (sC (.int 2)) sNil))) (sCons true (sC (.int 0)) sNil)))))
    (sApp 4 (sO oIx (sCons false (sVar 4) (sCons true (sCallT 2 [true] F_zlaw_take (sCons true (sVar 1) (sCons true (sO (oS gLen) (sCons true (sVar 4) sNil)) sNil))) sNil))))
    sNext)
  (sSeq (sSet 5 (sO oIx (sCons true (sCallL 2 F_zlaw_raised (sCons true (sTake hLst (sCons true (sCallT 3 [true] F_zlaw_limit (sCons true (sVar 1) (sCons true (sVar 2) (sCons true (sC (.int 3)) sNil)))) sNil)) (sCons true (sVar 3) sNil))) (sCons true (sC (.int 0)) sNil))))
  (sSeq (sSet 6 (sO oTupOf (sCons true (sLc [14] (sCallT 3 [true] F_zlaw_marking (sCons true (sVar 1) (sCons true (sVar 2) (sCons true (sC (.int 4)) sNil)))) (gmName 14) sYes (sO oAdd (sCons true (sVar 3) (sCons true (sVar 14) sNil)))) sNil)))
  (sSeq (sSet 7 (sO oListOf (sCons true (sVar 4) sNil)))
  (sSeq (sSet 8 (sCallL 1 F_frame_of (sCons true (sVar 7) sNil)))
  (sSeq (sIfS (sOr (sTb (sO (oS gNe) (sCons true (sVar 7) (sCons true (sVar 4) sNil)))) (sOr (sNot (sTr (sCallL 3 F_zlaw_all_numbers (sCons true (sVar 8) (sCons true (sVar 2) (sCons true (sO (oS gNeg) (sCons true (sC (.int 1)) sNil)) sNil)))))) (sTb (sO (oS gNe) (sCons true (sVar 8) (sCons true (sCallL 1 F_zlaw_greatest (sCons true (sVar 4) sNil)) sNil))))))
    (sRet (sC (.bl false)))
    sNext)
  (sSeq (sSet 9 (sCallL 2 F_in_frame (sCons true (sVar 7) (sCons true (sVar 6) sNil))))
  (sSeq (sIfS (sOr (sNot (sTr (sO (oS (gIsi "bool")) (sCons true (sVar 9) sNil)))) (sTb (sO (oS gNe) (sCons true (sVar 9) (sCons true (sCallL 2 F_zlaw_admitted (sCons true (sVar 4) (sCons true (sVar 6) sNil))) sNil)))))
    (sRet (sC (.bl false)))
    sNext)
  (sSeq (sFor (sO oAdd (sCons false (sVar 4) (sCons true (sTake hLst (sCons true (sVar 5) sNil)) sNil))) (gmName 10)
    (sSeq (sSet 11 (sCallL 2 F_within (sCons true (sVar 5) (sCons true (sVar 10) sNil))))
    (sSeq (sSet 12 (sCallL 2 F_within (sCons true (sVar 10) (sCons true (sVar 5) sNil))))
    (sSeq (sSet 13 (sCallL 2 F_admits (sCons true (sVar 10) (sCons true (sVar 6) sNil))))
    (sSeq (sIfS (sOr (sNot (sTr (sO (oS (gIsi "bool")) (sCons true (sVar 11) sNil)))) (sOr (sNot (sTr (sO (oS (gIsi "bool")) (sCons true (sVar 12) sNil)))) (sNot (sTr (sO (oS (gIsi "bool")) (sCons true (sVar 13) sNil))))))
      (sRet (sC (.bl false)))
      sNext)
    (sIfS (sOr (sTb (sO (oS gNe) (sCons true (sVar 11) (sCons true (sCallL 2 F_zlaw_within (sCons true (sVar 5) (sCons true (sVar 10) sNil))) sNil)))) (sOr (sTb (sO (oS gNe) (sCons true (sVar 12) (sCons true (sCallL 2 F_zlaw_within (sCons true (sVar 10) (sCons true (sVar 5) sNil))) sNil)))) (sTb (sO (oS gNe) (sCons true (sVar 13) (sCons true (sCallL 2 F_zlaw_admits (sCons true (sVar 10) (sCons true (sVar 6) sNil))) sNil))))))
      (sRet (sC (.bl false)))
      sNext))))))
  (sRet (sC (.bl true)))))))))))))))))
noncomputable def F_zlaw_first_half : FSem := fnOf 1 15 [] g_zlaw_first_half
abbrev s_lesser : Stmt := topS 6
abbrev ps_lesser : List Str := ["first", "second"]
abbrev N_lesser : List Str := ["first", "second"]
theorem sc_lesser : FnScope N_lesser ps_lesser (defScope s_lesser) := ⟨rfl, rfl, rfl, by decide +kernel, rfl, by decide +kernel, by decide +kernel⟩
noncomputable def g_lesser : SM :=
  (sSeq (sIfS (sTb (sO (oS gEq) (sCons true (sVar 0) (sCons true (sC (.int (-1))) sNil))))
    (sRet (sVar 1))
    sNext)
  (sSeq (sIfS (sTb (sO (oS gEq) (sCons true (sVar 1) (sCons true (sC (.int (-1))) sNil))))
    (sRet (sVar 0))
    sNext)
  (sRet (sO oMin2 (sCons true (sVar 0) (sCons true (sVar 1) sNil))))))
noncomputable def F_lesser : FSem := fnOf 2 2 [] g_lesser
abbrev s_limit_meet : Stmt := topS 7
abbrev ps_limit_meet : List Str := ["first", "second"]
abbrev N_limit_meet : List Str := ["first", "second", "k"]
theorem sc_limit_meet : FnScope N_limit_meet ps_limit_meet (defScope s_limit_meet) := ⟨rfl, rfl, rfl, by decide +kernel, rfl, by decide +kernel, by decide +kernel⟩
noncomputable def g_limit_meet : SM :=
  (sRet (sO oTupOf (sCons true (sLcR [2] gRng1 (sCons true (sO (oS gLen) (sCons true (sVar 0) sNil)) sNil) (gmName 2) sYes (sCallL 2 F_lesser (sCons true (sO oIx (sCons true (sVar 0) (sCons true (sVar 2) sNil))) (sCons true (sO oIx (sCons true (sVar 1) (sCons true (sVar 2) sNil))) sNil)))) sNil)))
noncomputable def F_limit_meet : FSem := fnOf 2 3 [] g_limit_meet
abbrev s_frame_meet : Stmt := topS 8
abbrev ps_frame_meet : List Str := ["first", "second"]
abbrev N_frame_meet : List Str := ["first", "second", "found", "one", "other"]
theorem sc_frame_meet : FnScope N_frame_meet ps_frame_meet (defScope s_frame_meet) := ⟨rfl, rfl, rfl, by decide +kernel, rfl, by decide +kernel, by decide +kernel⟩
noncomputable def g_frame_meet : SM :=
  (sSeq (sSet 2 (sTake hLst sNil))
  (sSeq (sForN 0 (gmName 3)
    (sForN 1 (gmName 4)
      (sApp 2 (sCallL 2 F_limit_meet (sCons true (sVar 3) (sCons true (sVar 4) sNil))))))
  (sRet (sCallL 1 F_frame_of (sCons true (sVar 2) sNil)))))
noncomputable def F_frame_meet : FSem := fnOf 2 5 [] g_frame_meet
abbrev s_frame_within : Stmt := topS 9
abbrev ps_frame_within : List Str := ["first", "second"]
abbrev N_frame_within : List Str := ["first", "second", "limit", "inside", "other"]
theorem sc_frame_within : FnScope N_frame_within ps_frame_within (defScope s_frame_within) := ⟨rfl, rfl, rfl, by decide +kernel, rfl, by decide +kernel, by decide +kernel⟩
noncomputable def g_frame_within : SM :=
  (sSeq (sForN 0 (gmName 2)
    (sSeq (sSet 3 (sC (.bl false)))
    (sSeq (sForN 1 (gmName 4)
      (sSet 3 (sOrV (sVar 3) (sCallL 2 F_within (sCons true (sVar 2) (sCons true (sVar 4) sNil))))))
    (sIfS (sNot (sTr (sVar 3)))
      (sRet (sC (.bl false)))
      sNext))))
  (sRet (sC (.bl true))))
noncomputable def F_frame_within : FSem := fnOf 2 5 [] g_frame_within
abbrev s_zlaw_held : Stmt := topS 25
abbrev ps_zlaw_held : List Str := ["limits", "limit"]
abbrev N_zlaw_held : List Str := ["limits", "limit", "other"]
theorem sc_zlaw_held : FnScope N_zlaw_held ps_zlaw_held (defScope s_zlaw_held) := ⟨rfl, rfl, rfl, by decide +kernel, rfl, by decide +kernel, by decide +kernel⟩
noncomputable def g_zlaw_held : SM :=
  (sSeq (sForN 0 (gmName 2)
    (sIfS (sTr (sCallL 2 F_zlaw_within (sCons true (sVar 1) (sCons true (sVar 2) sNil))))
      (sRet (sC (.bl true)))
      sNext))
  (sRet (sC (.bl false))))
noncomputable def F_zlaw_held : FSem := fnOf 2 3 [] g_zlaw_held
abbrev s_zlaw_lesser : Stmt := topS 26
abbrev ps_zlaw_lesser : List Str := ["first", "second"]
abbrev N_zlaw_lesser : List Str := ["first", "second"]
theorem sc_zlaw_lesser : FnScope N_zlaw_lesser ps_zlaw_lesser (defScope s_zlaw_lesser) := ⟨rfl, rfl, rfl, by decide +kernel, rfl, by decide +kernel, by decide +kernel⟩
noncomputable def g_zlaw_lesser : SM :=
  (sSeq (sIfS (sTb (sO oLt (sCons true (sVar 0) (sCons true (sC (.int 0)) sNil))))
    (sRet (sVar 1))
    sNext)
  (sSeq (sIfS (sTb (sO oLt (sCons true (sVar 1) (sCons true (sC (.int 0)) sNil))))
    (sRet (sVar 0))
    sNext)
  (sRet (sO oMin2 (sCons true (sVar 0) (sCons true (sVar 1) sNil))))))
noncomputable def F_zlaw_lesser : FSem := fnOf 2 2 [] g_zlaw_lesser
abbrev s_zlaw_second_half : Stmt := topS 28
abbrev ps_zlaw_second_half : List Str := ["script"]
abbrev N_zlaw_second_half : List Str := ["script", "draws", "size", "base", "first", "second", "marking", "found", "limit", "one", "pair", "other", "expected", "answer", "number", "k"]
theorem sc_zlaw_second_half : FnScope N_zlaw_second_half ps_zlaw_second_half (defScope s_zlaw_second_half) := ⟨rfl, rfl, rfl, by decide +kernel, rfl, by decide +kernel, by decide +kernel⟩
noncomputable def g_zlaw_second_half : SM :=
  (sSeq (sSet 1 (sCallL 2 F_zlaw_draws (sCons true (sVar 0) (sCons true (sC (.int 300)) sNil))))
  (sSeq (sSet 2 (sO oIx (sCons false (sO oLst (sCons true (sC (.int 1)) (sCons true (sC (.int 2)) (sCons true (sC (.int 3)) (sCons true (sC (.int 4)) (sCons true (sC (.int 12)) sNil)))))) (sCons true (sCallT 2 [true] F_zlaw_take (sCons true (sVar 1) (sCons true (sC (.int 5)) sNil))) sNil))))
  (sSeq (sSet 3 (sC (.int 0)))
  (sSeq (sIfS (sTb (sO (oS gEq) (sCons true (sCallT 2 [true] F_zlaw_take (sCons true (sVar 1) (sCons true (sC (.int 4)) sNil))) (sCons true (sC (.int 0)) sNil))))
    (sSet 3 (sO oMod (sCons true (sO (oS gInt) (sCons true (sCallL 2 F_zlaw_cell (sCons true (sVar 0) (sCons true (sC (.int 0)) sNil))) sNil)) (sCons true (sO oPow (sCons true (sC (.int 10)) (sCons true (sC (.int 30)) sNil))) sNil))))
    sNext)
  (sSeq (sSet 4 (sCallL 2 F_zlaw_raised (sCons true (sCallT 4 [true] F_zlaw_limits (sCons false (sVar 1) (sCons false (sVar 2) (sCons true (sCallT 2 [true] F_zlaw_take (sCons true (sVar 1) (sCons true (sC (.int 6)) sNil))) (sCons true (sC (.int 3)) sNil))))) (sCons true (sVar 3) sNil))))
  (sSeq (sSet 5 (sCallL 2 F_zlaw_raised (sCons true (sCallT 4 [true] F_zlaw_limits (sCons false (sVar 1) (sCons false (sVar 2) (sCons true (sCallT 2 [true] F_zlaw_take (sCons true (sVar 1) (sCons true (sC (.int 6)) sNil))) (sCons true (sC (.int 3)) sNil))))) (sCons true (sVar 3) sNil))))
  (sSeq (sIfS (sTb (sO (oS gEq) (sCons true (sCallT 2 [true] F_zlaw_take (sCons true (sVar 1) (sCons true (sC (.int 3)) sNil))) (sCons true (sC (.int 0)) sNil))))
    (sSet 5 (sLcN [8] 4 (gmName 8) sYes (sO oTupOf (sCons true (sLcN [14] 8 (gmName 14) sYes (sO oAdd (sCons false (sVar 14) (sCons true (sO oMul (sCons false (sO (oS gInt) (sCons true (sO oGe (sCons true (sVar 14) (sCons true (sC (.int 0)) sNil))) sNil)) (sCons true (sCallT 2 [true] F_zlaw_take (sCons true (sVar 1) (sCons true (sC (.int 2)) sNil))) sNil))) sNil)))) sNil))))
    sNext)
  (sSeq (sSet 6 (sO oTupOf (sCons true (sLc [14] (sCallT 3 [true] F_zlaw_marking (sCons true (sVar 1) (sCons true (sVar 2) (sCons true (sC (.int 4)) sNil)))) (gmName 14) sYes (sO oAdd (sCons true (sVar 3) (sCons true (sVar 14) sNil)))) sNil)))
  (sSeq (sSet 7 (sCallL 2 F_frame_meet (sCons true (sO oListOf (sCons true (sVar 4) sNil)) (sCons true (sO oListOf (sCons true (sVar 5) sNil)) sNil))))
  (sSeq (sIfS (sOr (sNot (sTr (sCallL 3 F_zlaw_all_numbers (sCons true (sVar 7) (sCons true (sVar 2) (sCons true (sO (oS gNeg) (sCons true (sC (.int 1)) sNil)) sNil)))))) (sTb (sO (oS gNe) (sCons true (sVar 7) (sCons true (sCallL 1 F_zlaw_greatest (sCons true (sVar 7) sNil)) sNil)))))
    (sRet (sC (.bl false)))
    sNext)
  (sSeq (sIfS (sTb (sO (oS gNe) (sCons true (sCallL 2 F_zlaw_admitted (sCons true (sVar 7) (sCons true (sVar 6) sNil))) (sCons true (sAndV (sCallL 2 F_zlaw_admitted (sCons true (sVar 4) (sCons true (sVar 6) sNil))) (sCallL 2 F_zlaw_admitted (sCons true (sVar 5) (sCons true (sVar 6) sNil)))) sNil))))
    (sRet (sC (.bl false)))
    sNext)
  (sSeq (sForN 7 (gmName 8)
    (sIfS (sOr (sNot (sTr (sCallL 2 F_zlaw_held (sCons true (sVar 4) (sCons true (sVar 8) sNil))))) (sNot (sTr (sCallL 2 F_zlaw_held (sCons true (sVar 5) (sCons true (sVar 8) sNil))))))
      (sRet (sC (.bl false)))
      sNext))
  (sSeq (sForN 4 (gmName 9)
    (sForN 5 (gmName 11)
      (sIfS (sNot (sTr (sCallL 2 F_zlaw_held (sCons false (sVar 7) (sCons true (sO oTupOf (sCons true (sLcR [15] gRng1 (sCons true (sVar 2) sNil) (gmName 15) sYes (sCallL 2 F_zlaw_lesser (sCons true (sO oIx (sCons true (sVar 9) (sCons true (sVar 15) sNil))) (sCons true (sO oIx (sCons true (sVar 11) (sCons true (sVar 15) sNil))) sNil)))) sNil)) sNil)))))
        (sRet (sC (.bl false)))
        sNext)))
  (sSeq (sFor (sTake hTup (sCons false (sTake hTup (sCons true (sVar 4) (sCons true (sVar 5) sNil))) (sCons true (sTake hTup (sCons true (sVar 5) (sCons true (sVar 4) sNil))) sNil))) (gmName 10)
    (sSeq (sSet 12 (sO (oS gEq) (sCons true (sO (oS gLen) (sCons true (sLc [8] (sO oIx (sCons true (sVar 10) (sCons true (sC (.int 0)) sNil))) (gmName 8) (sNot (sTr (sCallL 2 F_zlaw_held (sCons true (sO oIx (sCons true (sVar 10) (sCons true (sC (.int 1)) sNil))) (sCons true (sVar 8) sNil))))) (sVar 8)) sNil)) (sCons true (sC (.int 0)) sNil))))
    (sSeq (sSet 13 (sCallL 2 F_frame_within (sCons true (sO oListOf (sCons true (sO oIx (sCons true (sVar 10) (sCons true (sC (.int 0)) sNil))) sNil)) (sCons true (sO oListOf (sCons true (sO oIx (sCons true (sVar 10) (sCons true (sC (.int 1)) sNil))) sNil)) sNil))))
    (sIfS (sOr (sNot (sTr (sO (oS (gIsi "bool")) (sCons true (sVar 13) sNil)))) (sTb (sO (oS gNe) (sCons true (sVar 13) (sCons true (sVar 12) sNil)))))
      (sRet (sC (.bl false)))
      sNext))))
  (sRet (sC (.bl true)))))))))))))))))
noncomputable def F_zlaw_second_half : FSem := fnOf 1 16 [] g_zlaw_second_half
abbrev s_law : Stmt := topS 29
abbrev ps_law : List Str := ["script"]
abbrev N_law : List Str := ["script"]
theorem sc_law : FnScope N_law ps_law (defScope s_law) := ⟨rfl, rfl, rfl, by decide +kernel, rfl, by decide +kernel, by decide +kernel⟩
noncomputable def g_law : SM :=
  (sRet (sAndV (sO (oS gIs) (sCons true (sCallL 1 F_zlaw_first_half (sCons true (sVar 0) sNil)) (sCons true (sC (.bl true)) sNil))) (sO (oS gIs) (sCons true (sCallL 1 F_zlaw_second_half (sCons true (sVar 0) sNil)) (sCons true (sC (.bl true)) sNil)))))
noncomputable def F_law : FSem := fnOf 1 1 [] g_law
/-- what the top has bound -/
structure Txt (K : PySem.W.Frag) (mg : Str → Option Value) where
  a_admits : Addr
  fd_admits : FuncData
  d_admits : DefAt K mg "admits" s_admits ps_admits a_admits fd_admits
  a_within : Addr
  fd_within : FuncData
  d_within : DefAt K mg "within" s_within ps_within a_within fd_within
  a_frame_of : Addr
  fd_frame_of : FuncData
  d_frame_of : DefAt K mg "frame_of" s_frame_of ps_frame_of a_frame_of fd_frame_of
  a_in_frame : Addr
  fd_in_frame : FuncData
  d_in_frame : DefAt K mg "in_frame" s_in_frame ps_in_frame a_in_frame fd_in_frame
  a_zlaw_draws : Addr
  fd_zlaw_draws : FuncData
  d_zlaw_draws : DefAt K mg "_law_draws" s_zlaw_draws ps_zlaw_draws a_zlaw_draws fd_zlaw_draws
  a_zlaw_take : Addr
  fd_zlaw_take : FuncData
  d_zlaw_take : DefAt K mg "_law_take" s_zlaw_take ps_zlaw_take a_zlaw_take fd_zlaw_take
  a_zlaw_is_integer : Addr
  fd_zlaw_is_integer : FuncData
  d_zlaw_is_integer : DefAt K mg "_law_is_integer" s_zlaw_is_integer ps_zlaw_is_integer a_zlaw_is_integer fd_zlaw_is_integer
  a_zlaw_numbers : Addr
  fd_zlaw_numbers : FuncData
  d_zlaw_numbers : DefAt K mg "_law_numbers" s_zlaw_numbers ps_zlaw_numbers a_zlaw_numbers fd_zlaw_numbers
  a_zlaw_all_numbers : Addr
  fd_zlaw_all_numbers : FuncData
  d_zlaw_all_numbers : DefAt K mg "_law_all_numbers" s_zlaw_all_numbers ps_zlaw_all_numbers a_zlaw_all_numbers fd_zlaw_all_numbers
  a_zlaw_marking : Addr
  fd_zlaw_marking : FuncData
  d_zlaw_marking : DefAt K mg "_law_marking" s_zlaw_marking ps_zlaw_marking a_zlaw_marking fd_zlaw_marking
  a_zlaw_limit : Addr
  fd_zlaw_limit : FuncData
  d_zlaw_limit : DefAt K mg "_law_limit" s_zlaw_limit ps_zlaw_limit a_zlaw_limit fd_zlaw_limit
  a_zlaw_limits : Addr
  fd_zlaw_limits : FuncData
  d_zlaw_limits : DefAt K mg "_law_limits" s_zlaw_limits ps_zlaw_limits a_zlaw_limits fd_zlaw_limits
  a_zlaw_admits : Addr
  fd_zlaw_admits : FuncData
  d_zlaw_admits : DefAt K mg "_law_admits" s_zlaw_admits ps_zlaw_admits a_zlaw_admits fd_zlaw_admits
  a_zlaw_admitted : Addr
  fd_zlaw_admitted : FuncData
  d_zlaw_admitted : DefAt K mg "_law_admitted" s_zlaw_admitted ps_zlaw_admitted a_zlaw_admitted fd_zlaw_admitted
  a_zlaw_within : Addr
  fd_zlaw_within : FuncData
  d_zlaw_within : DefAt K mg "_law_within" s_zlaw_within ps_zlaw_within a_zlaw_within fd_zlaw_within
  a_zlaw_greatest : Addr
  fd_zlaw_greatest : FuncData
  d_zlaw_greatest : DefAt K mg "_law_greatest" s_zlaw_greatest ps_zlaw_greatest a_zlaw_greatest fd_zlaw_greatest
  a_zlaw_cell : Addr
  fd_zlaw_cell : FuncData
  d_zlaw_cell : DefAt K mg "_law_cell" s_zlaw_cell ps_zlaw_cell a_zlaw_cell fd_zlaw_cell
  a_zlaw_raised : Addr
  fd_zlaw_raised : FuncData
  d_zlaw_raised : DefAt K mg "_law_raised" s_zlaw_raised ps_zlaw_raised a_zlaw_raised fd_zlaw_raised
  a_zlaw_first_half : Addr
  fd_zlaw_first_half : FuncData
  d_zlaw_first_half : DefAt K mg "_law_first_half" s_zlaw_first_half ps_zlaw_first_half a_zlaw_first_half fd_zlaw_first_half
  a_lesser : Addr
  fd_lesser : FuncData
  d_lesser : DefAt K mg "lesser" s_lesser ps_lesser a_lesser fd_lesser
  a_limit_meet : Addr
  fd_limit_meet : FuncData
  d_limit_meet : DefAt K mg "limit_meet" s_limit_meet ps_limit_meet a_limit_meet fd_limit_meet
  a_frame_meet : Addr
  fd_frame_meet : FuncData
  d_frame_meet : DefAt K mg "frame_meet" s_frame_meet ps_frame_meet a_frame_meet fd_frame_meet
  a_frame_within : Addr
  fd_frame_within : FuncData
  d_frame_within : DefAt K mg "frame_within" s_frame_within ps_frame_within a_frame_within fd_frame_within
  a_zlaw_held : Addr
  fd_zlaw_held : FuncData
  d_zlaw_held : DefAt K mg "_law_held" s_zlaw_held ps_zlaw_held a_zlaw_held fd_zlaw_held
  a_zlaw_lesser : Addr
  fd_zlaw_lesser : FuncData
  d_zlaw_lesser : DefAt K mg "_law_lesser" s_zlaw_lesser ps_zlaw_lesser a_zlaw_lesser fd_zlaw_lesser
  a_zlaw_second_half : Addr
  fd_zlaw_second_half : FuncData
  d_zlaw_second_half : DefAt K mg "_law_second_half" s_zlaw_second_half ps_zlaw_second_half a_zlaw_second_half fd_zlaw_second_half
  a_law : Addr
  fd_law : FuncData
  d_law : DefAt K mg "law" s_law ps_law a_law fd_law
  b_bool : mg "bool" = none
  b_int : mg "int" = none
  b_isinstance : mg "isinstance" = none
  b_len : mg "len" = none
  b_list : mg "list" = none
  b_min : mg "min" = none
  b_range : mg "range" = none
  b_set : mg "set" = none
  b_sorted : mg "sorted" = none
  b_tuple : mg "tuple" = none
  i_ANY : ∃ t, mg "ANY" = some (.int (-1) t)
  bl : ∀ (s : Shared) (v : Value), BindsTo s fd_law ⟨[v], []⟩ [("script", v)]
section
variable {P : Program} {w : World} {K : PySem.W.Frag} {mg : Str → Option Value} {base : Heap}
theorem ok_admits (T : Txt K mg) : FnOk P w K mg base (L2.CX P w) 1 T.a_admits T.fd_admits ps_admits (spF K 2 [] F_admits) :=
  def_okD (k := 0) T.d_admits sc_admits (by decide) (by decide) fun cdv A outer s H E hr =>
  (psq_cons (psq_forR1 (passes_of rfl) (by rfl) (by rfl) T.b_range (paq_cons (pq_len1 (by rfl) T.b_len (pq_var (p := true) 0 (pv 0))) (paq_nil (p := true))) (pgq_name sc_admits.nd (i := 2) (by rfl) (by first | exact .inl rfl | exact .inr rfl))
    (psq_one (psq_if (ptq_w (pwq_and (ptq_ne hr (pq_ix (pq_var (p := true) 0 (pv 0)) (pq_var (p := true) 2 (pv 2))) (pq_gi (p := true) (by rfl) T.i_ANY)) (pwq_and1 (ptq_gt (pq_ix (pq_var (p := true) 1 (pv 1)) (pq_var (p := true) 2 (pv 2))) (pq_ix (pq_var (p := true) 0 (pv 0)) (pq_var (p := true) 2 (pv 2)))))))
      (psq_one (psq_ret (pq_bl (p := true))))
      psq_nil)))
  (psq_one (psq_ret (pq_bl (p := true)))))
theorem ok_within (T : Txt K mg) : FnOk P w K mg base (L2.CX P w) 1 T.a_within T.fd_within ps_within (spF K 2 [] F_within) :=
  def_okD (k := 0) T.d_within sc_within (by decide) (by decide) fun cdv A outer s H E hr =>
  (psq_cons (psq_forR1 (passes_of rfl) (by rfl) (by rfl) T.b_range (paq_cons (pq_len1 (by rfl) T.b_len (pq_var (p := true) 0 (pv 0))) (paq_nil (p := true))) (pgq_name sc_within.nd (i := 2) (by rfl) (by first | exact .inl rfl | exact .inr rfl))
    (psq_one (psq_if (ptq_w (pwq_and (ptq_ne hr (pq_ix (pq_var (p := true) 1 (pv 1)) (pq_var (p := true) 2 (pv 2))) (pq_gi (p := true) (by rfl) T.i_ANY)) (pwq_and1 (ptq_w (pwq_or (ptq_eq hr (pq_ix (pq_var (p := true) 0 (pv 0)) (pq_var (p := true) 2 (pv 2))) (pq_gi (p := true) (by rfl) T.i_ANY)) (pwq_or1 (ptq_gt (pq_ix (pq_var (p := true) 0 (pv 0)) (pq_var (p := true) 2 (pv 2))) (pq_ix (pq_var (p := true) 1 (pv 1)) (pq_var (p := true) 2 (pv 2))))))))))
      (psq_one (psq_ret (pq_bl (p := true))))
      psq_nil)))
  (psq_one (psq_ret (pq_bl (p := true)))))
theorem ok_frame_of (T : Txt K mg) : FnOk P w K mg base (L2.CX P w) 2 T.a_frame_of T.fd_frame_of ps_frame_of (spF K 1 [] F_frame_of) :=
  def_okD (k := 1) T.d_frame_of sc_frame_of (by decide) (by decide) fun cdv A outer s H E hr =>
  (psq_cons (psq_set sc_frame_of.nd (i := 1) (by rfl) (by first | exact .inl rfl | exact .inr rfl) (pq_lst paq_nil (p := true)))
  (psq_cons (psq_forE (passes_of rfl) (by rfl) (pq_sortSet (by rfl) hr (by rfl) T.b_sorted (by rfl) T.b_set (pq_var (p := true) 0 (pv 0))) (pgq_name sc_frame_of.nd (i := 2) (by rfl) (by first | exact .inl rfl | exact .inr rfl))
    (psq_cons (psq_set sc_frame_of.nd (i := 3) (by rfl) (by first | exact .inl rfl | exact .inr rfl) (pq_bl (p := true)))
    (psq_cons (psq_forN (passes_of rfl) (by rfl) (pv 0) (pgq_name sc_frame_of.nd (i := 4) (by rfl) (by first | exact .inl rfl | exact .inr rfl))
      (psq_one (psq_if (ptq_w (pwq_and (ptq_ne hr (pq_var (p := true) 4 (pv 4)) (pq_var (p := true) 2 (pv 2))) (pwq_and1 (ptq_tr (pq_callL (takes_of rfl rfl rfl rfl) (ok_within T) (hr.mono (by decide)) (by rfl) T.d_within.mg T.d_within.fn.kp T.d_within.b (paq_cons (pq_var (p := true) 2 (pv 2)) (paq_cons (pq_var (p := true) 4 (pv 4)) (paq_nil (p := true)))))))))
        (psq_one (psq_set sc_frame_of.nd (i := 3) (by rfl) (by first | exact .inl rfl | exact .inr rfl) (pq_bl (p := true))))
        psq_nil)))
    (psq_one (psq_if (ptq_tr (pq_var (p := true) 3 (pv 3)))
      (psq_one (psq_append (pv 1) (pq_var (p := true) 2 (pv 2))))
      psq_nil)))))
  (psq_one (psq_ret (pq_var (p := true) 1 (pv 1))))))
theorem ok_in_frame (T : Txt K mg) : FnOk P w K mg base (L2.CX P w) 2 T.a_in_frame T.fd_in_frame ps_in_frame (spF K 2 [] F_in_frame) :=
  def_okD (k := 1) T.d_in_frame sc_in_frame (by decide) (by decide) fun cdv A outer s H E hr =>
  (psq_cons (psq_forN (passes_of rfl) (by rfl) (pv 0) (pgq_name sc_in_frame.nd (i := 2) (by rfl) (by first | exact .inl rfl | exact .inr rfl))
    (psq_one (psq_if (ptq_tr (pq_callL (takes_of rfl rfl rfl rfl) (ok_admits T) (hr.mono (by decide)) (by rfl) T.d_admits.mg T.d_admits.fn.kp T.d_admits.b (paq_cons (pq_var (p := true) 2 (pv 2)) (paq_cons (pq_var (p := true) 1 (pv 1)) (paq_nil (p := true))))))
      (psq_one (psq_ret (pq_bl (p := true))))
      psq_nil)))
  (psq_one (psq_ret (pq_bl (p := true)))))
theorem ok_zlaw_draws (T : Txt K mg) : FnOk P w K mg base (L2.CX P w) 1 T.a_zlaw_draws T.fd_zlaw_draws ps_zlaw_draws (spF K 2 [] F_zlaw_draws) :=
  def_okD (k := 0) T.d_zlaw_draws sc_zlaw_draws (by decide) (by decide) fun cdv A outer s H E hr =>
  (psq_cons (psq_set sc_zlaw_draws.nd (i := 2) (by rfl) (by first | exact .inl rfl | exact .inr rfl) (pq_list (by rfl) T.b_list (pq_var (p := true) 0 (pv 0))))
  (psq_cons (psq_if (ptq_eq hr (pq_len1 (by rfl) T.b_len (pq_var (p := true) 2 (pv 2))) (pq_int (p := true)))
    (psq_one (psq_set sc_zlaw_draws.nd (i := 2) (by rfl) (by first | exact .inl rfl | exact .inr rfl) (pq_lstI (paq_cons (pq_int (p := true)) (paq_nil (p := true))))))
    psq_nil)
  (psq_cons (psq_set sc_zlaw_draws.nd (i := 3) (by rfl) (by first | exact .inl rfl | exact .inr rfl) (pq_lst paq_nil (p := true)))
  (psq_cons (psq_set sc_zlaw_draws.nd (i := 4) (by rfl) (by first | exact .inl rfl | exact .inr rfl) (pq_int (p := true)))
  (psq_cons (psq_forR1 (passes_of rfl) (by rfl) (by rfl) T.b_range (paq_cons (pq_var (p := true) 1 (pv 1)) (paq_nil (p := true))) (pgq_name sc_zlaw_draws.nd (i := 5) (by rfl) (by first | exact .inl rfl | exact .inr rfl))
    (psq_cons (psq_set sc_zlaw_draws.nd (i := 6) (by rfl) (by first | exact .inl rfl | exact .inr rfl) (pq_mod (pq_var (p := true) 5 (pv 5)) (pq_len1 (by rfl) T.b_len (pq_var (p := true) 2 (pv 2)))))
    (psq_cons (psq_set sc_zlaw_draws.nd (i := 7) (by rfl) (by first | exact .inl rfl | exact .inr rfl) (pq_ix (pq_var (p := true) 2 (pv 2)) (pq_var (p := true) 6 (pv 6))))
    (psq_cons (psq_set sc_zlaw_draws.nd (i := 4) (by rfl) (by first | exact .inl rfl | exact .inr rfl) (pq_mod (pq_int1 (by rfl) T.b_int (pq_add (pq_add (pq_add (pq_mul (pq_var (p := true) 4 (pv 4)) (pq_int (p := true))) (pq_mul (pq_mod (pq_int1 (by rfl) T.b_int (pq_var (p := true) 7 (pv 7))) (pq_int (p := true))) (pq_int (p := true)))) (pq_mul (pq_var (p := true) 5 (pv 5)) (pq_int (p := true)))) (pq_int (p := true)))) (pq_int (p := true))))
    (psq_cons (psq_set sc_zlaw_draws.nd (i := 8) (by rfl) (by first | exact .inl rfl | exact .inr rfl) (pq_mod (pq_int1 (by rfl) T.b_int (pq_add (pq_add (pq_mul (pq_var (p := true) 4 (pv 4)) (pq_var (p := true) 4 (pv 4))) (pq_mul (pq_int (p := true)) (pq_var (p := true) 4 (pv 4)))) (pq_var (p := true) 5 (pv 5)))) (pq_int (p := true))))
    (psq_one (psq_if (ptq_ge (pq_var (p := true) 7 (pv 7)) (pq_pow (pq_int (p := true)) (pq_int (p := true))))
      (psq_cons (psq_append (pv 3) (pq_mod (pq_int1 (by rfl) T.b_int (pq_var (p := true) 7 (pv 7))) (pq_int (p := true))))
      (psq_one (psq_setAt (pv 2) (pq_var (p := true) 6 (pv 6)) (pq_div (pq_var (p := true) 7 (pv 7)) (pq_int (p := true))))))
      (psq_one (psq_append (pv 3) (pq_mod (pq_int1 (by rfl) T.b_int (pq_var (p := true) 8 (pv 8))) (pq_int (p := true))))))))))))
  (psq_cons (psq_reverse (pv 3))
  (psq_one (psq_ret (pq_var (p := true) 3 (pv 3))))))))))
theorem ok_zlaw_take (T : Txt K mg) : FnOk P w K mg base (L2.CX P w) 1 T.a_zlaw_take T.fd_zlaw_take ps_zlaw_take (spF K 2 [true] F_zlaw_take) :=
  def_okD (k := 0) T.d_zlaw_take sc_zlaw_take (by decide) (by decide) fun cdv A outer s H E hr =>
  (psq_cons (psq_if (ptq_eq hr (pq_len1 (by rfl) T.b_len (pq_var (p := true) 0 (pv 0))) (pq_int (p := true)))
    (psq_one (psq_ret (pq_int (p := true))))
    psq_nil)
  (psq_one (psq_ret (pq_mod (pq_int1 (by rfl) T.b_int (pq_pop (pv 0))) (pq_var (p := true) 1 (pv 1))))))
theorem ok_zlaw_is_integer (T : Txt K mg) : FnOk P w K mg base (L2.CX P w) 1 T.a_zlaw_is_integer T.fd_zlaw_is_integer ps_zlaw_is_integer (spF K 1 [] F_zlaw_is_integer) :=
  def_okD (k := 0) T.d_zlaw_is_integer sc_zlaw_is_integer (by decide) (by decide) fun cdv A outer s H E hr =>
  (psq_one (psq_ret (pq_and (pq_isi (by rfl) T.b_isinstance (by rfl) T.b_int (by rfl) (pq_var (p := true) 0 (pv 0))) (pq_one (pq_not (pq_isi (by rfl) T.b_isinstance (by rfl) T.b_bool (by rfl) (pq_var (p := true) 0 (pv 0))))))))
theorem ok_zlaw_numbers (T : Txt K mg) : FnOk P w K mg base (L2.CX P w) 2 T.a_zlaw_numbers T.fd_zlaw_numbers ps_zlaw_numbers (spF K 3 [] F_zlaw_numbers) :=
  def_okD (k := 1) T.d_zlaw_numbers sc_zlaw_numbers (by decide) (by decide) fun cdv A outer s H E hr =>
  (psq_cons (psq_if (ptq_w (pwq_or (ptq_not (ptq_tr (pq_isi (by rfl) T.b_isinstance (by rfl) T.b_tuple (by rfl) (pq_var (p := true) 0 (pv 0))))) (pwq_or1 (ptq_ne hr (pq_len1 (by rfl) T.b_len (pq_var (p := true) 0 (pv 0))) (pq_var (p := true) 1 (pv 1))))))
    (psq_one (psq_ret (pq_bl (p := true))))
    psq_nil)
  (psq_cons (psq_forN (passes_of rfl) (by rfl) (pv 0) (pgq_name sc_zlaw_numbers.nd (i := 3) (by rfl) (by first | exact .inl rfl | exact .inr rfl))
    (psq_one (psq_if (ptq_w (pwq_or (ptq_not (ptq_tr (pq_callL (takes_of rfl rfl rfl rfl) (ok_zlaw_is_integer T) (hr.mono (by decide)) (by rfl) T.d_zlaw_is_integer.mg T.d_zlaw_is_integer.fn.kp T.d_zlaw_is_integer.b (paq_cons (pq_var (p := true) 3 (pv 3)) (paq_nil (p := true)))))) (pwq_or1 (ptq_lt (pq_var (p := true) 3 (pv 3)) (pq_var (p := true) 2 (pv 2))))))
      (psq_one (psq_ret (pq_bl (p := true))))
      psq_nil)))
  (psq_one (psq_ret (pq_bl (p := true))))))
theorem ok_zlaw_all_numbers (T : Txt K mg) : FnOk P w K mg base (L2.CX P w) 3 T.a_zlaw_all_numbers T.fd_zlaw_all_numbers ps_zlaw_all_numbers (spF K 3 [] F_zlaw_all_numbers) :=
  def_okD (k := 2) T.d_zlaw_all_numbers sc_zlaw_all_numbers (by decide) (by decide) fun cdv A outer s H E hr =>
  (psq_cons (psq_if (ptq_not (ptq_tr (pq_isi (by rfl) T.b_isinstance (by rfl) T.b_list (by rfl) (pq_var (p := true) 0 (pv 0)))))
    (psq_one (psq_ret (pq_bl (p := true))))
    psq_nil)
  (psq_cons (psq_forN (passes_of rfl) (by rfl) (pv 0) (pgq_name sc_zlaw_all_numbers.nd (i := 3) (by rfl) (by first | exact .inl rfl | exact .inr rfl))
    (psq_one (psq_if (ptq_not (ptq_tr (pq_callL (takes_of rfl rfl rfl rfl) (ok_zlaw_numbers T) (hr.mono (by decide)) (by rfl) T.d_zlaw_numbers.mg T.d_zlaw_numbers.fn.kp T.d_zlaw_numbers.b (paq_cons (pq_var (p := true) 3 (pv 3)) (paq_cons (pq_var (p := true) 1 (pv 1)) (paq_cons (pq_var (p := true) 2 (pv 2)) (paq_nil (p := true))))))))
      (psq_one (psq_ret (pq_bl (p := true))))
      psq_nil)))
  (psq_one (psq_ret (pq_bl (p := true))))))
theorem ok_zlaw_marking (T : Txt K mg) : FnOk P w K mg base (L2.CX P w) 2 T.a_zlaw_marking T.fd_zlaw_marking ps_zlaw_marking (spF K 3 [true] F_zlaw_marking) :=
  def_okD (k := 1) T.d_zlaw_marking sc_zlaw_marking (by decide) (by decide) fun cdv A outer s H E hr =>
  (psq_one (psq_ret (pq_tuple (by rfl) T.b_tuple (pq_lcR1 (own := [("k", 3)]) (by rfl) sc_zlaw_marking.nd (by rfl) T.b_range (paq_cons (pq_var (p := true) 1 (pv 1)) (paq_nil (p := true))) (blkOk_by (N := N_zlaw_marking) (sc := defScope s_zlaw_marking) (own := [("k", 3)]) (by decide +kernel)) (P' := [0, 1, 2]) (m := 4) (by decide) (fun _ _ _ _ _ => (pgq_name sc_zlaw_marking.nd (i := 3) (by rfl) (by first | exact .inl rfl | exact .inr rfl))) (fun _ _ _ _ _ => (ptsq_nil (p := true))) (fun _ _ _ _ _ => (pq_callT takes0 (ok_zlaw_take T) (hr.mono (by decide)) (by rfl) T.d_zlaw_take.mg T.d_zlaw_take.fn.kp T.d_zlaw_take.b (paq_cons (pq_var (p := true) 0 (pv 0)) (paq_cons (pq_add (pq_var (p := true) 2 (pv 2)) (pq_int (p := true))) (paq_nil (p := true))))))))))
theorem ok_zlaw_limit (T : Txt K mg) : FnOk P w K mg base (L2.CX P w) 2 T.a_zlaw_limit T.fd_zlaw_limit ps_zlaw_limit (spF K 3 [true] F_zlaw_limit) :=
  def_okD (k := 1) T.d_zlaw_limit sc_zlaw_limit (by decide) (by decide) fun cdv A outer s H E hr =>
  (psq_one (psq_ret (pq_tuple (by rfl) T.b_tuple (pq_lcR1 (own := [("k", 3)]) (by rfl) sc_zlaw_limit.nd (by rfl) T.b_range (paq_cons (pq_var (p := true) 1 (pv 1)) (paq_nil (p := true))) (blkOk_by (N := N_zlaw_limit) (sc := defScope s_zlaw_limit) (own := [("k", 3)]) (by decide +kernel)) (P' := [0, 1, 2]) (m := 4) (by decide) (fun _ _ _ _ _ => (pgq_name sc_zlaw_limit.nd (i := 3) (by rfl) (by first | exact .inl rfl | exact .inr rfl))) (fun _ _ _ _ _ => (ptsq_nil (p := true))) (fun _ _ _ _ _ => (pq_sub (pq_callT takes0 (ok_zlaw_take T) (hr.mono (by decide)) (by rfl) T.d_zlaw_take.mg T.d_zlaw_take.fn.kp T.d_zlaw_take.b (paq_cons (pq_var (p := true) 0 (pv 0)) (paq_cons (pq_add (pq_var (p := true) 2 (pv 2)) (pq_int (p := true))) (paq_nil (p := true))))) (pq_int (p := true))))))))
theorem ok_zlaw_limits (T : Txt K mg) : FnOk P w K mg base (L2.CX P w) 3 T.a_zlaw_limits T.fd_zlaw_limits ps_zlaw_limits (spF K 4 [true] F_zlaw_limits) :=
  def_okD (k := 2) T.d_zlaw_limits sc_zlaw_limits (by decide) (by decide) fun cdv A outer s H E hr =>
  (psq_one (psq_ret (pq_lcR1 (own := [("k", 4)]) (by rfl) sc_zlaw_limits.nd (by rfl) T.b_range (paq_cons (pq_var (p := true) 2 (pv 2)) (paq_nil (p := true))) (blkOk_by (N := N_zlaw_limits) (sc := defScope s_zlaw_limits) (own := [("k", 4)]) (by decide +kernel)) (P' := [0, 1, 2, 3]) (m := 5) (by decide) (fun _ _ _ _ _ => (pgq_name sc_zlaw_limits.nd (i := 4) (by rfl) (by first | exact .inl rfl | exact .inr rfl))) (fun _ _ _ _ _ => (ptsq_nil (p := true))) (fun _ _ _ _ _ => (pq_callT takes0 (ok_zlaw_limit T) (hr.mono (by decide)) (by rfl) T.d_zlaw_limit.mg T.d_zlaw_limit.fn.kp T.d_zlaw_limit.b (paq_cons (pq_var (p := true) 0 (pv 0)) (paq_cons (pq_var (p := true) 1 (pv 1)) (paq_cons (pq_var (p := true) 3 (pv 3)) (paq_nil (p := true))))))))))
theorem ok_zlaw_admits (T : Txt K mg) : FnOk P w K mg base (L2.CX P w) 1 T.a_zlaw_admits T.fd_zlaw_admits ps_zlaw_admits (spF K 2 [] F_zlaw_admits) :=
  def_okD (k := 0) T.d_zlaw_admits sc_zlaw_admits (by decide) (by decide) fun cdv A outer s H E hr =>
  (psq_cons (psq_forR1 (passes_of rfl) (by rfl) (by rfl) T.b_range (paq_cons (pq_len1 (by rfl) T.b_len (pq_var (p := true) 0 (pv 0))) (paq_nil (p := true))) (pgq_name sc_zlaw_admits.nd (i := 2) (by rfl) (by first | exact .inl rfl | exact .inr rfl))
    (psq_one (psq_if (ptq_w (pwq_and (ptq_ge (pq_ix (pq_var (p := true) 0 (pv 0)) (pq_var (p := true) 2 (pv 2))) (pq_int (p := true))) (pwq_and1 (ptq_gt (pq_ix (pq_var (p := true) 1 (pv 1)) (pq_var (p := true) 2 (pv 2))) (pq_ix (pq_var (p := true) 0 (pv 0)) (pq_var (p := true) 2 (pv 2)))))))
      (psq_one (psq_ret (pq_bl (p := true))))
      psq_nil)))
  (psq_one (psq_ret (pq_bl (p := true)))))
theorem ok_zlaw_admitted (T : Txt K mg) : FnOk P w K mg base (L2.CX P w) 2 T.a_zlaw_admitted T.fd_zlaw_admitted ps_zlaw_admitted (spF K 2 [] F_zlaw_admitted) :=
  def_okD (k := 1) T.d_zlaw_admitted sc_zlaw_admitted (by decide) (by decide) fun cdv A outer s H E hr =>
  (psq_cons (psq_forN (passes_of rfl) (by rfl) (pv 0) (pgq_name sc_zlaw_admitted.nd (i := 2) (by rfl) (by first | exact .inl rfl | exact .inr rfl))
    (psq_one (psq_if (ptq_tr (pq_callL (takes_of rfl rfl rfl rfl) (ok_zlaw_admits T) (hr.mono (by decide)) (by rfl) T.d_zlaw_admits.mg T.d_zlaw_admits.fn.kp T.d_zlaw_admits.b (paq_cons (pq_var (p := true) 2 (pv 2)) (paq_cons (pq_var (p := true) 1 (pv 1)) (paq_nil (p := true))))))
      (psq_one (psq_ret (pq_bl (p := true))))
      psq_nil)))
  (psq_one (psq_ret (pq_bl (p := true)))))
theorem ok_zlaw_within (T : Txt K mg) : FnOk P w K mg base (L2.CX P w) 1 T.a_zlaw_within T.fd_zlaw_within ps_zlaw_within (spF K 2 [] F_zlaw_within) :=
  def_okD (k := 0) T.d_zlaw_within sc_zlaw_within (by decide) (by decide) fun cdv A outer s H E hr =>
  (psq_cons (psq_forR1 (passes_of rfl) (by rfl) (by rfl) T.b_range (paq_cons (pq_len1 (by rfl) T.b_len (pq_var (p := true) 0 (pv 0))) (paq_nil (p := true))) (pgq_name sc_zlaw_within.nd (i := 2) (by rfl) (by first | exact .inl rfl | exact .inr rfl))
    (psq_one (psq_if (ptq_w (pwq_and (ptq_ge (pq_ix (pq_var (p := true) 1 (pv 1)) (pq_var (p := true) 2 (pv 2))) (pq_int (p := true))) (pwq_and1 (ptq_w (pwq_or (ptq_lt (pq_ix (pq_var (p := true) 0 (pv 0)) (pq_var (p := true) 2 (pv 2))) (pq_int (p := true))) (pwq_or1 (ptq_gt (pq_ix (pq_var (p := true) 0 (pv 0)) (pq_var (p := true) 2 (pv 2))) (pq_ix (pq_var (p := true) 1 (pv 1)) (pq_var (p := true) 2 (pv 2))))))))))
      (psq_one (psq_ret (pq_bl (p := true))))
      psq_nil)))
  (psq_one (psq_ret (pq_bl (p := true)))))
theorem ok_zlaw_greatest (T : Txt K mg) : FnOk P w K mg base (L2.CX P w) 2 T.a_zlaw_greatest T.fd_zlaw_greatest ps_zlaw_greatest (spF K 1 [] F_zlaw_greatest) :=
  def_okD (k := 1) T.d_zlaw_greatest sc_zlaw_greatest (by decide) (by decide) fun cdv A outer s H E hr =>
  (psq_cons (psq_set sc_zlaw_greatest.nd (i := 1) (by rfl) (by first | exact .inl rfl | exact .inr rfl) (pq_lst paq_nil (p := true)))
  (psq_cons (psq_forE (passes_of rfl) (by rfl) (pq_sortSet (by rfl) hr (by rfl) T.b_sorted (by rfl) T.b_set (pq_var (p := true) 0 (pv 0))) (pgq_name sc_zlaw_greatest.nd (i := 2) (by rfl) (by first | exact .inl rfl | exact .inr rfl))
    (psq_cons (psq_setLcN (own := [("other", 4)]) (by rfl) sc_zlaw_greatest.nd (i := 3) (by rfl) (by rfl) (sw_true (by rfl) (by rfl) (by rfl) (by decide +kernel)) (pv 0) (blkOk_by (N := N_zlaw_greatest) (sc := defScope s_zlaw_greatest) (own := [("other", 4)]) (by decide +kernel)) (P' := [0, 1, 2, 3]) (m := 5) (by decide) (fun _ _ _ _ _ => (pgq_name sc_zlaw_greatest.nd (i := 4) (by rfl) (by first | exact .inl rfl | exact .inr rfl))) (fun _ _ _ _ _ => (ptsq_one (ptq_w (pwq_and (ptq_ne hr (pq_var (p := true) 4 (pv 4)) (pq_var (p := true) 2 (pv 2))) (pwq_and1 (ptq_tr (pq_callL takes0 (ok_zlaw_within T) (hr.mono (by decide)) (by rfl) T.d_zlaw_within.mg T.d_zlaw_within.fn.kp T.d_zlaw_within.b (paq_cons (pq_var (p := true) 2 (pv 2)) (paq_cons (pq_var (p := true) 4 (pv 4)) (paq_nil (p := true))))))))))) (fun _ _ _ _ _ => (pq_var (p := true) 4 (pv 4))))
    (psq_one (psq_if (ptq_eq hr (pq_len1 (by rfl) T.b_len (pq_var (p := true) 3 (pv 3))) (pq_int (p := true)))
      (psq_one (psq_append (pv 1) (pq_var (p := true) 2 (pv 2))))
      psq_nil))))
  (psq_one (psq_ret (pq_var (p := true) 1 (pv 1))))))
theorem ok_zlaw_cell (T : Txt K mg) : FnOk P w K mg base (L2.CX P w) 1 T.a_zlaw_cell T.fd_zlaw_cell ps_zlaw_cell (spF K 2 [] F_zlaw_cell) :=
  def_okD (k := 0) T.d_zlaw_cell sc_zlaw_cell (by decide) (by decide) fun cdv A outer s H E hr =>
  (psq_cons (psq_if (ptq_lt (pq_var (p := true) 1 (pv 1)) (pq_len1 (by rfl) T.b_len (pq_var (p := true) 0 (pv 0))))
    (psq_one (psq_ret (pq_ix (pq_var (p := true) 0 (pv 0)) (pq_var (p := true) 1 (pv 1)))))
    psq_nil)
  (psq_one (psq_ret (pq_int (p := true)))))
theorem ok_zlaw_raised (T : Txt K mg) : FnOk P w K mg base (L2.CX P w) 1 T.a_zlaw_raised T.fd_zlaw_raised ps_zlaw_raised (spF K 2 [] F_zlaw_raised) :=
  def_okD (k := 0) T.d_zlaw_raised sc_zlaw_raised (by decide) (by decide) fun cdv A outer s H E hr =>
  (psq_one (psq_ret (pq_lcN (own := [("limit", 2)]) (by rfl) sc_zlaw_raised.nd (pv 0) (blkOk_by (N := N_zlaw_raised) (sc := defScope s_zlaw_raised) (own := [("limit", 2)]) (by decide +kernel)) (P' := [0, 1, 3]) (m := 4) (by decide) (fun _ _ _ _ _ => (pgq_name sc_zlaw_raised.nd (i := 2) (by rfl) (by first | exact .inl rfl | exact .inr rfl))) (fun _ _ _ _ _ => (ptsq_nil (p := true))) (fun _ _ _ _ _ => (pq_tuple (by rfl) T.b_tuple (pq_lcN (own := [("number", 3)]) (by rfl) sc_zlaw_raised.nd (pv 2) (blkOk_by (own := [("number", 3)]) (by kernel_rfl)) (P' := [0, 1, 2]) (m := 4) (by decide) (fun _ _ _ _ _ => (pgq_name sc_zlaw_raised.nd (i := 3) (by rfl) (by first | exact .inl rfl | exact .inr rfl))) (fun _ _ _ _ _ => (ptsq_nil (p := true))) (fun _ _ _ _ _ => (pq_if (ptq_ge (pq_var (p := true) 3 (pv 3)) (pq_int (p := true))) (pq_add (pq_var (p := true) 1 (pv 1)) (pq_var (p := true) 3 (pv 3))) (pq_neg (pq_int (p := true)))))))))))
theorem ok_zlaw_first_half (T : Txt K mg) : FnOk P w K mg base (L2.CX P w) 4 T.a_zlaw_first_half T.fd_zlaw_first_half ps_zlaw_first_half (spF K 1 [] F_zlaw_first_half) :=
  def_okD (k := 3) T.d_zlaw_first_half sc_zlaw_first_half (by decide) (by decide) fun cdv A outer s H E hr =>
  (psq_cons (psq_set sc_zlaw_first_half.nd (i := 1) (by rfl) (by first | exact .inl rfl | exact .inr rfl) (pq_callL (takes_of rfl rfl rfl rfl) (ok_zlaw_draws T) (hr.mono (by decide)) (by rfl) T.d_zlaw_draws.mg T.d_zlaw_draws.fn.kp T.d_zlaw_draws.b (paq_cons (pq_var (p := true) 0 (pv 0)) (paq_cons (pq_int (p := true)) (paq_nil (p := true))))))
  (psq_cons (psq_set sc_zlaw_first_half.nd (i := 2) (by rfl) (by first | exact .inl rfl | exact .inr rfl) (pq_ix (pq_lstI (paq_cons (pq_int (p := true)) (paq_cons (pq_int (p := true)) (paq_cons (pq_int (p := true)) (paq_cons (pq_int (p := true)) (paq_cons (pq_int (p := true)) (paq_nil (p := true)))))))) (pq_callT (takes_of rfl rfl rfl rfl) (ok_zlaw_take T) (hr.mono (by decide)) (by rfl) T.d_zlaw_take.mg T.d_zlaw_take.fn.kp T.d_zlaw_take.b (paq_cons (pq_var (p := true) 1 (pv 1)) (paq_cons (pq_int (p := true)) (paq_nil (p := true)))))))
  (psq_cons (psq_set sc_zlaw_first_half.nd (i := 3) (by rfl) (by first | exact .inl rfl | exact .inr rfl) (pq_int (p := true)))
  (psq_cons (psq_if (ptq_eq hr (pq_callT (takes_of rfl rfl rfl rfl) (ok_zlaw_take T) (hr.mono (by decide)) (by rfl) T.d_zlaw_take.mg T.d_zlaw_take.fn.kp T.d_zlaw_take.b (paq_cons (pq_var (p := true) 1 (pv 1)) (paq_cons (pq_int (p := true)) (paq_nil (p := true))))) (pq_int (p := true)))
    (psq_one (psq_set sc_zlaw_first_half.nd (i := 3) (by rfl) (by first | exact .inl rfl | exact .inr rfl) (pq_mod (pq_int1 (by rfl) T.b_int (pq_callL (takes_of rfl rfl rfl rfl) (ok_zlaw_cell T) (hr.mono (by decide)) (by rfl) T.d_zlaw_cell.mg T.d_zlaw_cell.fn.kp T.d_zlaw_cell.b (paq_cons (pq_var (p := true) 0 (pv 0)) (paq_cons (pq_int (p := true)) (paq_nil (p := true)))))) (pq_pow (pq_int (p := true)) (pq_int (p := true))))))
    psq_nil)
  (psq_cons (psq_set sc_zlaw_first_half.nd (i := 4) (by rfl) (by first | exact .inl rfl | exact .inr rfl) (pq_callL (takes_of rfl rfl rfl rfl) (ok_zlaw_raised T) (hr.mono (by decide)) (by rfl) T.d_zlaw_raised.mg T.d_zlaw_raised.fn.kp T.d_zlaw_raised.b (paq_cons (pq_callT (takes_of rfl rfl rfl rfl) (ok_zlaw_limits T) (hr.mono (by decide)) (by rfl) T.d_zlaw_limits.mg T.d_zlaw_limits.fn.kp T.d_zlaw_limits.b (paq_cons (pq_var (p := true) 1 (pv 1)) (paq_cons (pq_var (p := true) 2 (pv 2)) (paq_cons (pq_callT (takes_of rfl rfl rfl rfl) (ok_zlaw_take T) (hr.mono (by decide)) (by rfl) T.d_zlaw_take.mg T.d_zlaw_take.fn.kp T.d_zlaw_take.b (paq_cons (pq_var (p := true) 1 (pv 1)) (paq_cons (pq_int (p := true)) (paq_nil (p := true))))) (paq_cons (pq_int (p := true)) (paq_nil (p := true))))))) (paq_cons (pq_var (p := true) 3 (pv 3)) (paq_nil (p := true))))))
  (psq_cons (psq_if (ptq_w (pwq_and (ptq_gt (pq_len1 (by rfl) T.b_len (pq_var (p := true) 4 (pv 4))) (pq_int (p := true))) (pwq_and1 (ptq_eq hr (pq_callT (takes_of rfl rfl rfl rfl) (ok_zlaw_take T) (hr.mono (by decide)) (by rfl) T.d_zlaw_take.mg T.d_zlaw_take.fn.kp T.d_zlaw_take.b (paq_cons (pq_var (p := true) 1 (pv 1)) (paq_cons (pq_int (p := true)) (paq_nil (p := true))))) (pq_int (p := true))))))
    (psq_one (psq_append (pv 4) (pq_ix (pq_var (p := true) 4 (pv 4)) (pq_callT (takes_of rfl rfl rfl rfl) (ok_zlaw_take T) (hr.mono (by decide)) (by rfl) T.d_zlaw_take.mg T.d_zlaw_take.fn.kp T.d_zlaw_take.b (paq_cons (pq_var (p := true) 1 (pv 1)) (paq_cons (pq_len1 (by rfl) T.b_len (pq_var (p := true) 4 (pv 4))) (paq_nil (p := true))))))))
    psq_nil)
  (psq_cons (psq_set sc_zlaw_first_half.nd (i := 5) (by rfl) (by first | exact .inl rfl | exact .inr rfl) (pq_ix (pq_callL (takes_of rfl rfl rfl rfl) (ok_zlaw_raised T) (hr.mono (by decide)) (by rfl) T.d_zlaw_raised.mg T.d_zlaw_raised.fn.kp T.d_zlaw_raised.b (paq_cons (pq_lst (paq_cons (pq_callT (takes_of rfl rfl rfl rfl) (ok_zlaw_limit T) (hr.mono (by decide)) (by rfl) T.d_zlaw_limit.mg T.d_zlaw_limit.fn.kp T.d_zlaw_limit.b (paq_cons (pq_var (p := true) 1 (pv 1)) (paq_cons (pq_var (p := true) 2 (pv 2)) (paq_cons (pq_int (p := true)) (paq_nil (p := true)))))) (paq_nil (p := true)))) (paq_cons (pq_var (p := true) 3 (pv 3)) (paq_nil (p := true))))) (pq_int (p := true))))
  (psq_cons (psq_set sc_zlaw_first_half.nd (i := 6) (by rfl) (by first | exact .inl rfl | exact .inr rfl) (pq_tuple (by rfl) T.b_tuple (pq_lcE (own := [("number", 14)]) (by rfl) sc_zlaw_first_half.nd (pq_callT (takes_of rfl rfl rfl rfl) (ok_zlaw_marking T) (hr.mono (by decide)) (by rfl) T.d_zlaw_marking.mg T.d_zlaw_marking.fn.kp T.d_zlaw_marking.b (paq_cons (pq_var (p := true) 1 (pv 1)) (paq_cons (pq_var (p := true) 2 (pv 2)) (paq_cons (pq_int (p := true)) (paq_nil (p := true)))))) (blkOk_by (N := N_zlaw_first_half) (sc := defScope s_zlaw_first_half) (own := [("number", 14)]) (by decide +kernel)) (P' := [0, 1, 2, 3, 4, 5, 6, 7, 8, 9, 10, 11, 12, 13]) (m := 15) (by decide) (fun _ _ _ _ _ => (pgq_name sc_zlaw_first_half.nd (i := 14) (by rfl) (by first | exact .inl rfl | exact .inr rfl))) (fun _ _ _ _ _ => (ptsq_nil (p := true))) (fun _ _ _ _ _ => (pq_add (pq_var (p := true) 3 (pv 3)) (pq_var (p := true) 14 (pv 14)))))))
  (psq_cons (psq_set sc_zlaw_first_half.nd (i := 7) (by rfl) (by first | exact .inl rfl | exact .inr rfl) (pq_list (by rfl) T.b_list (pq_var (p := true) 4 (pv 4))))
  (psq_cons (psq_set sc_zlaw_first_half.nd (i := 8) (by rfl) (by first | exact .inl rfl | exact .inr rfl) (pq_callL (takes_of rfl rfl rfl rfl) (ok_frame_of T) (hr.mono (by decide)) (by rfl) T.d_frame_of.mg T.d_frame_of.fn.kp T.d_frame_of.b (paq_cons (pq_var (p := true) 7 (pv 7)) (paq_nil (p := true)))))
  (psq_cons (psq_if (ptq_w (pwq_or (ptq_ne hr (pq_var (p := true) 7 (pv 7)) (pq_var (p := true) 4 (pv 4))) (pwq_or (ptq_not (ptq_tr (pq_callL (takes_of rfl rfl rfl rfl) (ok_zlaw_all_numbers T) (hr.mono (by decide)) (by rfl) T.d_zlaw_all_numbers.mg T.d_zlaw_all_numbers.fn.kp T.d_zlaw_all_numbers.b (paq_cons (pq_var (p := true) 8 (pv 8)) (paq_cons (pq_var (p := true) 2 (pv 2)) (paq_cons (pq_neg (pq_int (p := true))) (paq_nil (p := true)))))))) (pwq_or1 (ptq_ne hr (pq_var (p := true) 8 (pv 8)) (pq_callL (takes_of rfl rfl rfl rfl) (ok_zlaw_greatest T) (hr.mono (by decide)) (by rfl) T.d_zlaw_greatest.mg T.d_zlaw_greatest.fn.kp T.d_zlaw_greatest.b (paq_cons (pq_var (p := true) 4 (pv 4)) (paq_nil (p := true)))))))))
    (psq_one (psq_ret (pq_bl (p := true))))
    psq_nil)
  (psq_cons (psq_set sc_zlaw_first_half.nd (i := 9) (by rfl) (by first | exact .inl rfl | exact .inr rfl) (pq_callL (takes_of rfl rfl rfl rfl) (ok_in_frame T) (hr.mono (by decide)) (by rfl) T.d_in_frame.mg T.d_in_frame.fn.kp T.d_in_frame.b (paq_cons (pq_var (p := true) 7 (pv 7)) (paq_cons (pq_var (p := true) 6 (pv 6)) (paq_nil (p := true))))))
  (psq_cons (psq_if (ptq_w (pwq_or (ptq_not (ptq_tr (pq_isi (by rfl) T.b_isinstance (by rfl) T.b_bool (by rfl) (pq_var (p := true) 9 (pv 9))))) (pwq_or1 (ptq_ne hr (pq_var (p := true) 9 (pv 9)) (pq_callL (takes_of rfl rfl rfl rfl) (ok_zlaw_admitted T) (hr.mono (by decide)) (by rfl) T.d_zlaw_admitted.mg T.d_zlaw_admitted.fn.kp T.d_zlaw_admitted.b (paq_cons (pq_var (p := true) 4 (pv 4)) (paq_cons (pq_var (p := true) 6 (pv 6)) (paq_nil (p := true)))))))))
    (psq_one (psq_ret (pq_bl (p := true))))
    psq_nil)
  (psq_cons (psq_forE (passes_of rfl) (by rfl) (pq_add (pq_var (p := true) 4 (pv 4)) (pq_lst (paq_cons (pq_var (p := true) 5 (pv 5)) (paq_nil (p := true))))) (pgq_name sc_zlaw_first_half.nd (i := 10) (by rfl) (by first | exact .inl rfl | exact .inr rfl))
    (psq_cons (psq_set sc_zlaw_first_half.nd (i := 11) (by rfl) (by first | exact .inl rfl | exact .inr rfl) (pq_callL (takes_of rfl rfl rfl rfl) (ok_within T) (hr.mono (by decide)) (by rfl) T.d_within.mg T.d_within.fn.kp T.d_within.b (paq_cons (pq_var (p := true) 5 (pv 5)) (paq_cons (pq_var (p := true) 10 (pv 10)) (paq_nil (p := true))))))
    (psq_cons (psq_set sc_zlaw_first_half.nd (i := 12) (by rfl) (by first | exact .inl rfl | exact .inr rfl) (pq_callL (takes_of rfl rfl rfl rfl) (ok_within T) (hr.mono (by decide)) (by rfl) T.d_within.mg T.d_within.fn.kp T.d_within.b (paq_cons (pq_var (p := true) 10 (pv 10)) (paq_cons (pq_var (p := true) 5 (pv 5)) (paq_nil (p := true))))))
    (psq_cons (psq_set sc_zlaw_first_half.nd (i := 13) (by rfl) (by first | exact .inl rfl | exact .inr rfl) (pq_callL (takes_of rfl rfl rfl rfl) (ok_admits T) (hr.mono (by decide)) (by rfl) T.d_admits.mg T.d_admits.fn.kp T.d_admits.b (paq_cons (pq_var (p := true) 10 (pv 10)) (paq_cons (pq_var (p := true) 6 (pv 6)) (paq_nil (p := true))))))
    (psq_cons (psq_if (ptq_w (pwq_or (ptq_not (ptq_tr (pq_isi (by rfl) T.b_isinstance (by rfl) T.b_bool (by rfl) (pq_var (p := true) 11 (pv 11))))) (pwq_or (ptq_not (ptq_tr (pq_isi (by rfl) T.b_isinstance (by rfl) T.b_bool (by rfl) (pq_var (p := true) 12 (pv 12))))) (pwq_or1 (ptq_not (ptq_tr (pq_isi (by rfl) T.b_isinstance (by rfl) T.b_bool (by rfl) (pq_var (p := true) 13 (pv 13)))))))))
      (psq_one (psq_ret (pq_bl (p := true))))
      psq_nil)
    (psq_one (psq_if (ptq_w (pwq_or (ptq_ne hr (pq_var (p := true) 11 (pv 11)) (pq_callL (takes_of rfl rfl rfl rfl) (ok_zlaw_within T) (hr.mono (by decide)) (by rfl) T.d_zlaw_within.mg T.d_zlaw_within.fn.kp T.d_zlaw_within.b (paq_cons (pq_var (p := true) 5 (pv 5)) (paq_cons (pq_var (p := true) 10 (pv 10)) (paq_nil (p := true)))))) (pwq_or (ptq_ne hr (pq_var (p := true) 12 (pv 12)) (pq_callL (takes_of rfl rfl rfl rfl) (ok_zlaw_within T) (hr.mono (by decide)) (by rfl) T.d_zlaw_within.mg T.d_zlaw_within.fn.kp T.d_zlaw_within.b (paq_cons (pq_var (p := true) 10 (pv 10)) (paq_cons (pq_var (p := true) 5 (pv 5)) (paq_nil (p := true)))))) (pwq_or1 (ptq_ne hr (pq_var (p := true) 13 (pv 13)) (pq_callL (takes_of rfl rfl rfl rfl) (ok_zlaw_admits T) (hr.mono (by decide)) (by rfl) T.d_zlaw_admits.mg T.d_zlaw_admits.fn.kp T.d_zlaw_admits.b (paq_cons (pq_var (p := true) 10 (pv 10)) (paq_cons (pq_var (p := true) 6 (pv 6)) (paq_nil (p := true))))))))))
      (psq_one (psq_ret (pq_bl (p := true))))
      psq_nil)))))))
  (psq_one (psq_ret (pq_bl (p := true))))))))))))))))))
theorem ok_lesser (T : Txt K mg) : FnOk P w K mg base (L2.CX P w) 1 T.a_lesser T.fd_lesser ps_lesser (spF K 2 [] F_lesser) :=
  def_okD (k := 0) T.d_lesser sc_lesser (by decide) (by decide) fun cdv A outer s H E hr =>
  (psq_cons (psq_if (ptq_eq hr (pq_var (p := true) 0 (pv 0)) (pq_gi (p := true) (by rfl) T.i_ANY))
    (psq_one (psq_ret (pq_var (p := true) 1 (pv 1))))
    psq_nil)
  (psq_cons (psq_if (ptq_eq hr (pq_var (p := true) 1 (pv 1)) (pq_gi (p := true) (by rfl) T.i_ANY))
    (psq_one (psq_ret (pq_var (p := true) 0 (pv 0))))
    psq_nil)
  (psq_one (psq_ret (pq_min2 (by rfl) (by rfl) T.b_min (pq_var (p := true) 0 (pv 0)) (pq_var (p := true) 1 (pv 1)))))))
theorem ok_limit_meet (T : Txt K mg) : FnOk P w K mg base (L2.CX P w) 2 T.a_limit_meet T.fd_limit_meet ps_limit_meet (spF K 2 [] F_limit_meet) :=
  def_okD (k := 1) T.d_limit_meet sc_limit_meet (by decide) (by decide) fun cdv A outer s H E hr =>
  (psq_one (psq_ret (pq_tuple (by rfl) T.b_tuple (pq_lcR1 (own := [("k", 2)]) (by rfl) sc_limit_meet.nd (by rfl) T.b_range (paq_cons (pq_len1 (by rfl) T.b_len (pq_var (p := true) 0 (pv 0))) (paq_nil (p := true))) (blkOk_by (N := N_limit_meet) (sc := defScope s_limit_meet) (own := [("k", 2)]) (by decide +kernel)) (P' := [0, 1]) (m := 3) (by decide) (fun _ _ _ _ _ => (pgq_name sc_limit_meet.nd (i := 2) (by rfl) (by first | exact .inl rfl | exact .inr rfl))) (fun _ _ _ _ _ => (ptsq_nil (p := true))) (fun _ _ _ _ _ => (pq_callL takes0 (ok_lesser T) (hr.mono (by decide)) (by rfl) T.d_lesser.mg T.d_lesser.fn.kp T.d_lesser.b (paq_cons (pq_ix (pq_var (p := true) 0 (pv 0)) (pq_var (p := true) 2 (pv 2))) (paq_cons (pq_ix (pq_var (p := true) 1 (pv 1)) (pq_var (p := true) 2 (pv 2))) (paq_nil (p := true))))))))))
theorem ok_frame_meet (T : Txt K mg) : FnOk P w K mg base (L2.CX P w) 3 T.a_frame_meet T.fd_frame_meet ps_frame_meet (spF K 2 [] F_frame_meet) :=
  def_okD (k := 2) T.d_frame_meet sc_frame_meet (by decide) (by decide) fun cdv A outer s H E hr =>
  (psq_cons (psq_set sc_frame_meet.nd (i := 2) (by rfl) (by first | exact .inl rfl | exact .inr rfl) (pq_lst paq_nil (p := true)))
  (psq_cons (psq_forN (passes_of rfl) (by rfl) (pv 0) (pgq_name sc_frame_meet.nd (i := 3) (by rfl) (by first | exact .inl rfl | exact .inr rfl))
    (psq_one (psq_forN (passes_of rfl) (by rfl) (pv 1) (pgq_name sc_frame_meet.nd (i := 4) (by rfl) (by first | exact .inl rfl | exact .inr rfl))
      (psq_one (psq_append (pv 2) (pq_callL (takes_of rfl rfl rfl rfl) (ok_limit_meet T) (hr.mono (by decide)) (by rfl) T.d_limit_meet.mg T.d_limit_meet.fn.kp T.d_limit_meet.b (paq_cons (pq_var (p := true) 3 (pv 3)) (paq_cons (pq_var (p := true) 4 (pv 4)) (paq_nil (p := true))))))))))
  (psq_one (psq_ret (pq_callL (takes_of rfl rfl rfl rfl) (ok_frame_of T) (hr.mono (by decide)) (by rfl) T.d_frame_of.mg T.d_frame_of.fn.kp T.d_frame_of.b (paq_cons (pq_var (p := true) 2 (pv 2)) (paq_nil (p := true))))))))
theorem ok_frame_within (T : Txt K mg) : FnOk P w K mg base (L2.CX P w) 2 T.a_frame_within T.fd_frame_within ps_frame_within (spF K 2 [] F_frame_within) :=
  def_okD (k := 1) T.d_frame_within sc_frame_within (by decide) (by decide) fun cdv A outer s H E hr =>
  (psq_cons (psq_forN (passes_of rfl) (by rfl) (pv 0) (pgq_name sc_frame_within.nd (i := 2) (by rfl) (by first | exact .inl rfl | exact .inr rfl))
    (psq_cons (psq_set sc_frame_within.nd (i := 3) (by rfl) (by first | exact .inl rfl | exact .inr rfl) (pq_bl (p := true)))
    (psq_cons (psq_forN (passes_of rfl) (by rfl) (pv 1) (pgq_name sc_frame_within.nd (i := 4) (by rfl) (by first | exact .inl rfl | exact .inr rfl))
      (psq_one (psq_set sc_frame_within.nd (i := 3) (by rfl) (by first | exact .inl rfl | exact .inr rfl) (pq_or (pq_var (p := true) 3 (pv 3)) (pq_one (pq_callL (takes_of rfl rfl rfl rfl) (ok_within T) (hr.mono (by decide)) (by rfl) T.d_within.mg T.d_within.fn.kp T.d_within.b (paq_cons (pq_var (p := true) 2 (pv 2)) (paq_cons (pq_var (p := true) 4 (pv 4)) (paq_nil (p := true))))))))))
    (psq_one (psq_if (ptq_not (ptq_tr (pq_var (p := true) 3 (pv 3))))
      (psq_one (psq_ret (pq_bl (p := true))))
      psq_nil)))))
  (psq_one (psq_ret (pq_bl (p := true)))))
theorem ok_zlaw_held (T : Txt K mg) : FnOk P w K mg base (L2.CX P w) 2 T.a_zlaw_held T.fd_zlaw_held ps_zlaw_held (spF K 2 [] F_zlaw_held) :=
  def_okD (k := 1) T.d_zlaw_held sc_zlaw_held (by decide) (by decide) fun cdv A outer s H E hr =>
  (psq_cons (psq_forN (passes_of rfl) (by rfl) (pv 0) (pgq_name sc_zlaw_held.nd (i := 2) (by rfl) (by first | exact .inl rfl | exact .inr rfl))
    (psq_one (psq_if (ptq_tr (pq_callL (takes_of rfl rfl rfl rfl) (ok_zlaw_within T) (hr.mono (by decide)) (by rfl) T.d_zlaw_within.mg T.d_zlaw_within.fn.kp T.d_zlaw_within.b (paq_cons (pq_var (p := true) 1 (pv 1)) (paq_cons (pq_var (p := true) 2 (pv 2)) (paq_nil (p := true))))))
      (psq_one (psq_ret (pq_bl (p := true))))
      psq_nil)))
  (psq_one (psq_ret (pq_bl (p := true)))))
theorem ok_zlaw_lesser (T : Txt K mg) : FnOk P w K mg base (L2.CX P w) 1 T.a_zlaw_lesser T.fd_zlaw_lesser ps_zlaw_lesser (spF K 2 [] F_zlaw_lesser) :=
  def_okD (k := 0) T.d_zlaw_lesser sc_zlaw_lesser (by decide) (by decide) fun cdv A outer s H E hr =>
  (psq_cons (psq_if (ptq_lt (pq_var (p := true) 0 (pv 0)) (pq_int (p := true)))
    (psq_one (psq_ret (pq_var (p := true) 1 (pv 1))))
    psq_nil)
  (psq_cons (psq_if (ptq_lt (pq_var (p := true) 1 (pv 1)) (pq_int (p := true)))
    (psq_one (psq_ret (pq_var (p := true) 0 (pv 0))))
    psq_nil)
  (psq_one (psq_ret (pq_min2 (by rfl) (by rfl) T.b_min (pq_var (p := true) 0 (pv 0)) (pq_var (p := true) 1 (pv 1)))))))
theorem ok_zlaw_second_half (T : Txt K mg) : FnOk P w K mg base (L2.CX P w) 4 T.a_zlaw_second_half T.fd_zlaw_second_half ps_zlaw_second_half (spF K 1 [] F_zlaw_second_half) :=
  def_okD (k := 3) T.d_zlaw_second_half sc_zlaw_second_half (by decide) (by decide) fun cdv A outer s H E hr =>
  (psq_cons (psq_set sc_zlaw_second_half.nd (i := 1) (by rfl) (by first | exact .inl rfl | exact .inr rfl) (pq_callL (takes_of rfl rfl rfl rfl) (ok_zlaw_draws T) (hr.mono (by decide)) (by rfl) T.d_zlaw_draws.mg T.d_zlaw_draws.fn.kp T.d_zlaw_draws.b (paq_cons (pq_var (p := true) 0 (pv 0)) (paq_cons (pq_int (p := true)) (paq_nil (p := true))))))
  (psq_cons (psq_set sc_zlaw_second_half.nd (i := 2) (by rfl) (by first | exact .inl rfl | exact .inr rfl) (pq_ix (pq_lstI (paq_cons (pq_int (p := true)) (paq_cons (pq_int (p := true)) (paq_cons (pq_int (p := true)) (paq_cons (pq_int (p := true)) (paq_cons (pq_int (p := true)) (paq_nil (p := true)))))))) (pq_callT (takes_of rfl rfl rfl rfl) (ok_zlaw_take T) (hr.mono (by decide)) (by rfl) T.d_zlaw_take.mg T.d_zlaw_take.fn.kp T.d_zlaw_take.b (paq_cons (pq_var (p := true) 1 (pv 1)) (paq_cons (pq_int (p := true)) (paq_nil (p := true)))))))
  (psq_cons (psq_set sc_zlaw_second_half.nd (i := 3) (by rfl) (by first | exact .inl rfl | exact .inr rfl) (pq_int (p := true)))
  (psq_cons (psq_if (ptq_eq hr (pq_callT (takes_of rfl rfl rfl rfl) (ok_zlaw_take T) (hr.mono (by decide)) (by rfl) T.d_zlaw_take.mg T.d_zlaw_take.fn.kp T.d_zlaw_take.b (paq_cons (pq_var (p := true) 1 (pv 1)) (paq_cons (pq_int (p := true)) (paq_nil (p := true))))) (pq_int (p := true)))
    (psq_one (psq_set sc_zlaw_second_half.nd (i := 3) (by rfl) (by first | exact .inl rfl | exact .inr rfl) (pq_mod (pq_int1 (by rfl) T.b_int (pq_callL (takes_of rfl rfl rfl rfl) (ok_zlaw_cell T) (hr.mono (by decide)) (by rfl) T.d_zlaw_cell.mg T.d_zlaw_cell.fn.kp T.d_zlaw_cell.b (paq_cons (pq_var (p := true) 0 (pv 0)) (paq_cons (pq_int (p := true)) (paq_nil (p := true)))))) (pq_pow (pq_int (p := true)) (pq_int (p := true))))))
    psq_nil)
  (psq_cons (psq_set sc_zlaw_second_half.nd (i := 4) (by rfl) (by first | exact .inl rfl | exact .inr rfl) (pq_callL (takes_of rfl rfl rfl rfl) (ok_zlaw_raised T) (hr.mono (by decide)) (by rfl) T.d_zlaw_raised.mg T.d_zlaw_raised.fn.kp T.d_zlaw_raised.b (paq_cons (pq_callT (takes_of rfl rfl rfl rfl) (ok_zlaw_limits T) (hr.mono (by decide)) (by rfl) T.d_zlaw_limits.mg T.d_zlaw_limits.fn.kp T.d_zlaw_limits.b (paq_cons (pq_var (p := true) 1 (pv 1)) (paq_cons (pq_var (p := true) 2 (pv 2)) (paq_cons (pq_callT (takes_of rfl rfl rfl rfl) (ok_zlaw_take T) (hr.mono (by decide)) (by rfl) T.d_zlaw_take.mg T.d_zlaw_take.fn.kp T.d_zlaw_take.b (paq_cons (pq_var (p := true) 1 (pv 1)) (paq_cons (pq_int (p := true)) (paq_nil (p := true))))) (paq_cons (pq_int (p := true)) (paq_nil (p := true))))))) (paq_cons (pq_var (p := true) 3 (pv 3)) (paq_nil (p := true))))))
  (psq_cons (psq_set sc_zlaw_second_half.nd (i := 5) (by rfl) (by first | exact .inl rfl | exact .inr rfl) (pq_callL (takes_of rfl rfl rfl rfl) (ok_zlaw_raised T) (hr.mono (by decide)) (by rfl) T.d_zlaw_raised.mg T.d_zlaw_raised.fn.kp T.d_zlaw_raised.b (paq_cons (pq_callT (takes_of rfl rfl rfl rfl) (ok_zlaw_limits T) (hr.mono (by decide)) (by rfl) T.d_zlaw_limits.mg T.d_zlaw_limits.fn.kp T.d_zlaw_limits.b (paq_cons (pq_var (p := true) 1 (pv 1)) (paq_cons (pq_var (p := true) 2 (pv 2)) (paq_cons (pq_callT (takes_of rfl rfl rfl rfl) (ok_zlaw_take T) (hr.mono (by decide)) (by rfl) T.d_zlaw_take.mg T.d_zlaw_take.fn.kp T.d_zlaw_take.b (paq_cons (pq_var (p := true) 1 (pv 1)) (paq_cons (pq_int (p := true)) (paq_nil (p := true))))) (paq_cons (pq_int (p := true)) (paq_nil (p := true))))))) (paq_cons (pq_var (p := true) 3 (pv 3)) (paq_nil (p := true))))))
  (psq_cons (psq_if (ptq_eq hr (pq_callT (takes_of rfl rfl rfl rfl) (ok_zlaw_take T) (hr.mono (by decide)) (by rfl) T.d_zlaw_take.mg T.d_zlaw_take.fn.kp T.d_zlaw_take.b (paq_cons (pq_var (p := true) 1 (pv 1)) (paq_cons (pq_int (p := true)) (paq_nil (p := true))))) (pq_int (p := true)))
    (psq_one (psq_setLcN (own := [("limit", 8)]) (by rfl) sc_zlaw_second_half.nd (i := 5) (by rfl) (by rfl) (sw_true (by rfl) (by rfl) (by rfl) (by decide +kernel)) (pv 4) (blkOk_by (N := N_zlaw_second_half) (sc := defScope s_zlaw_second_half) (own := [("limit", 8)]) (by decide +kernel)) (P' := [0, 1, 2, 3, 4, 5, 6, 7, 9, 10, 11, 12, 13, 14, 15]) (m := 16) (by decide) (fun _ _ _ _ _ => (pgq_name sc_zlaw_second_half.nd (i := 8) (by rfl) (by first | exact .inl rfl | exact .inr rfl))) (fun _ _ _ _ _ => (ptsq_nil (p := true))) (fun _ _ _ _ _ => (pq_tuple (by rfl) T.b_tuple (pq_lcN (own := [("number", 14)]) (by rfl) sc_zlaw_second_half.nd (pv 8) (blkOk_by (own := [("number", 14)]) (by kernel_rfl)) (P' := [0, 1, 2, 3, 4, 5, 6, 7, 8, 9, 10, 11, 12, 13, 15]) (m := 16) (by decide) (fun _ _ _ _ _ => (pgq_name sc_zlaw_second_half.nd (i := 14) (by rfl) (by first | exact .inl rfl | exact .inr rfl))) (fun _ _ _ _ _ => (ptsq_nil (p := true))) (fun _ _ _ _ _ => (pq_add (pq_var (p := true) 14 (pv 14)) (pq_mul (pq_int1 (by rfl) T.b_int (pq_ge (pq_var (p := true) 14 (pv 14)) (pq_int (p := true)))) (pq_callT takes0 (ok_zlaw_take T) (hr.mono (by decide)) (by rfl) T.d_zlaw_take.mg T.d_zlaw_take.fn.kp T.d_zlaw_take.b (paq_cons (pq_var (p := true) 1 (pv 1)) (paq_cons (pq_int (p := true)) (paq_nil (p := true)))))))))))))
    psq_nil)
  (psq_cons (psq_set sc_zlaw_second_half.nd (i := 6) (by rfl) (by first | exact .inl rfl | exact .inr rfl) (pq_tuple (by rfl) T.b_tuple (pq_lcE (own := [("number", 14)]) (by rfl) sc_zlaw_second_half.nd (pq_callT (takes_of rfl rfl rfl rfl) (ok_zlaw_marking T) (hr.mono (by decide)) (by rfl) T.d_zlaw_marking.mg T.d_zlaw_marking.fn.kp T.d_zlaw_marking.b (paq_cons (pq_var (p := true) 1 (pv 1)) (paq_cons (pq_var (p := true) 2 (pv 2)) (paq_cons (pq_int (p := true)) (paq_nil (p := true)))))) (blkOk_by (N := N_zlaw_second_half) (sc := defScope s_zlaw_second_half) (own := [("number", 14)]) (by decide +kernel)) (P' := [0, 1, 2, 3, 4, 5, 6, 7, 8, 9, 10, 11, 12, 13, 15]) (m := 16) (by decide) (fun _ _ _ _ _ => (pgq_name sc_zlaw_second_half.nd (i := 14) (by rfl) (by first | exact .inl rfl | exact .inr rfl))) (fun _ _ _ _ _ => (ptsq_nil (p := true))) (fun _ _ _ _ _ => (pq_add (pq_var (p := true) 3 (pv 3)) (pq_var (p := true) 14 (pv 14)))))))
  (psq_cons (psq_set sc_zlaw_second_half.nd (i := 7) (by rfl) (by first | exact .inl rfl | exact .inr rfl) (pq_callL (takes_of rfl rfl rfl rfl) (ok_frame_meet T) (hr.mono (by decide)) (by rfl) T.d_frame_meet.mg T.d_frame_meet.fn.kp T.d_frame_meet.b (paq_cons (pq_list (by rfl) T.b_list (pq_var (p := true) 4 (pv 4))) (paq_cons (pq_list (by rfl) T.b_list (pq_var (p := true) 5 (pv 5))) (paq_nil (p := true))))))
  (psq_cons (psq_if (ptq_w (pwq_or (ptq_not (ptq_tr (pq_callL (takes_of rfl rfl rfl rfl) (ok_zlaw_all_numbers T) (hr.mono (by decide)) (by rfl) T.d_zlaw_all_numbers.mg T.d_zlaw_all_numbers.fn.kp T.d_zlaw_all_numbers.b (paq_cons (pq_var (p := true) 7 (pv 7)) (paq_cons (pq_var (p := true) 2 (pv 2)) (paq_cons (pq_neg (pq_int (p := true))) (paq_nil (p := true)))))))) (pwq_or1 (ptq_ne hr (pq_var (p := true) 7 (pv 7)) (pq_callL (takes_of rfl rfl rfl rfl) (ok_zlaw_greatest T) (hr.mono (by decide)) (by rfl) T.d_zlaw_greatest.mg T.d_zlaw_greatest.fn.kp T.d_zlaw_greatest.b (paq_cons (pq_var (p := true) 7 (pv 7)) (paq_nil (p := true))))))))
    (psq_one (psq_ret (pq_bl (p := true))))
    psq_nil)
  (psq_cons (psq_if (ptq_ne hr (pq_callL (takes_of rfl rfl rfl rfl) (ok_zlaw_admitted T) (hr.mono (by decide)) (by rfl) T.d_zlaw_admitted.mg T.d_zlaw_admitted.fn.kp T.d_zlaw_admitted.b (paq_cons (pq_var (p := true) 7 (pv 7)) (paq_cons (pq_var (p := true) 6 (pv 6)) (paq_nil (p := true))))) (pq_and (pq_callL (takes_of rfl rfl rfl rfl) (ok_zlaw_admitted T) (hr.mono (by decide)) (by rfl) T.d_zlaw_admitted.mg T.d_zlaw_admitted.fn.kp T.d_zlaw_admitted.b (paq_cons (pq_var (p := true) 4 (pv 4)) (paq_cons (pq_var (p := true) 6 (pv 6)) (paq_nil (p := true))))) (pq_one (pq_callL (takes_of rfl rfl rfl rfl) (ok_zlaw_admitted T) (hr.mono (by decide)) (by rfl) T.d_zlaw_admitted.mg T.d_zlaw_admitted.fn.kp T.d_zlaw_admitted.b (paq_cons (pq_var (p := true) 5 (pv 5)) (paq_cons (pq_var (p := true) 6 (pv 6)) (paq_nil (p := true))))))))
    (psq_one (psq_ret (pq_bl (p := true))))
    psq_nil)
  (psq_cons (psq_forN (passes_of rfl) (by rfl) (pv 7) (pgq_name sc_zlaw_second_half.nd (i := 8) (by rfl) (by first | exact .inl rfl | exact .inr rfl))
    (psq_one (psq_if (ptq_w (pwq_or (ptq_not (ptq_tr (pq_callL (takes_of rfl rfl rfl rfl) (ok_zlaw_held T) (hr.mono (by decide)) (by rfl) T.d_zlaw_held.mg T.d_zlaw_held.fn.kp T.d_zlaw_held.b (paq_cons (pq_var (p := true) 4 (pv 4)) (paq_cons (pq_var (p := true) 8 (pv 8)) (paq_nil (p := true))))))) (pwq_or1 (ptq_not (ptq_tr (pq_callL (takes_of rfl rfl rfl rfl) (ok_zlaw_held T) (hr.mono (by decide)) (by rfl) T.d_zlaw_held.mg T.d_zlaw_held.fn.kp T.d_zlaw_held.b (paq_cons (pq_var (p := true) 5 (pv 5)) (paq_cons (pq_var (p := true) 8 (pv 8)) (paq_nil (p := true))))))))))
      (psq_one (psq_ret (pq_bl (p := true))))
      psq_nil)))
  (psq_cons (psq_forN (passes_of rfl) (by rfl) (pv 4) (pgq_name sc_zlaw_second_half.nd (i := 9) (by rfl) (by first | exact .inl rfl | exact .inr rfl))
    (psq_one (psq_forN (passes_of rfl) (by rfl) (pv 5) (pgq_name sc_zlaw_second_half.nd (i := 11) (by rfl) (by first | exact .inl rfl | exact .inr rfl))
      (psq_one (psq_if (ptq_not (ptq_tr (pq_callL (takes_of rfl rfl rfl rfl) (ok_zlaw_held T) (hr.mono (by decide)) (by rfl) T.d_zlaw_held.mg T.d_zlaw_held.fn.kp T.d_zlaw_held.b (paq_cons (pq_var (p := true) 7 (pv 7)) (paq_cons (pq_tuple (by rfl) T.b_tuple (pq_lcR1 (own := [("k", 15)]) (by rfl) sc_zlaw_second_half.nd (by rfl) T.b_range (paq_cons (pq_var (p := true) 2 (pv 2)) (paq_nil (p := true))) (blkOk_by (N := N_zlaw_second_half) (sc := defScope s_zlaw_second_half) (own := [("k", 15)]) (by decide +kernel)) (P' := [0, 1, 2, 3, 4, 5, 6, 7, 8, 9, 10, 11, 12, 13, 14]) (m := 16) (by decide) (fun _ _ _ _ _ => (pgq_name sc_zlaw_second_half.nd (i := 15) (by rfl) (by first | exact .inl rfl | exact .inr rfl))) (fun _ _ _ _ _ => (ptsq_nil (p := true))) (fun _ _ _ _ _ => (pq_callL takes0 (ok_zlaw_lesser T) (hr.mono (by decide)) (by rfl) T.d_zlaw_lesser.mg T.d_zlaw_lesser.fn.kp T.d_zlaw_lesser.b (paq_cons (pq_ix (pq_var (p := true) 9 (pv 9)) (pq_var (p := true) 15 (pv 15))) (paq_cons (pq_ix (pq_var (p := true) 11 (pv 11)) (pq_var (p := true) 15 (pv 15))) (paq_nil (p := true)))))))) (paq_nil (p := true)))))))
        (psq_one (psq_ret (pq_bl (p := true))))
        psq_nil)))))
  (psq_cons (psq_forE (passes_of rfl) (by rfl) (pq_tup (paq_cons (pq_tup (paq_cons (pq_var (p := true) 4 (pv 4)) (paq_cons (pq_var (p := true) 5 (pv 5)) (paq_nil (p := true))))) (paq_cons (pq_tup (paq_cons (pq_var (p := true) 5 (pv 5)) (paq_cons (pq_var (p := true) 4 (pv 4)) (paq_nil (p := true))))) (paq_nil (p := true))))) (pgq_name sc_zlaw_second_half.nd (i := 10) (by rfl) (by first | exact .inl rfl | exact .inr rfl))
    (psq_cons (psq_set sc_zlaw_second_half.nd (i := 12) (by rfl) (by first | exact .inl rfl | exact .inr rfl) (pq_eq hr (pq_len1 (by rfl) T.b_len (pq_lcE (own := [("limit", 8)]) (by rfl) sc_zlaw_second_half.nd (pq_ix (pq_var (p := true) 10 (pv 10)) (pq_int (p := true))) (blkOk_by (N := N_zlaw_second_half) (sc := defScope s_zlaw_second_half) (own := [("limit", 8)]) (by decide +kernel)) (P' := [0, 1, 2, 3, 4, 5, 6, 7, 9, 10, 11, 12, 13, 14, 15]) (m := 16) (by decide) (fun _ _ _ _ _ => (pgq_name sc_zlaw_second_half.nd (i := 8) (by rfl) (by first | exact .inl rfl | exact .inr rfl))) (fun _ _ _ _ _ => (ptsq_one (ptq_not (ptq_tr (pq_callL takes0 (ok_zlaw_held T) (hr.mono (by decide)) (by rfl) T.d_zlaw_held.mg T.d_zlaw_held.fn.kp T.d_zlaw_held.b (paq_cons (pq_ix (pq_var (p := true) 10 (pv 10)) (pq_int (p := true))) (paq_cons (pq_var (p := true) 8 (pv 8)) (paq_nil (p := true))))))))) (fun _ _ _ _ _ => (pq_var (p := true) 8 (pv 8))))) (pq_int (p := true))))
    (psq_cons (psq_set sc_zlaw_second_half.nd (i := 13) (by rfl) (by first | exact .inl rfl | exact .inr rfl) (pq_callL (takes_of rfl rfl rfl rfl) (ok_frame_within T) (hr.mono (by decide)) (by rfl) T.d_frame_within.mg T.d_frame_within.fn.kp T.d_frame_within.b (paq_cons (pq_list (by rfl) T.b_list (pq_ix (pq_var (p := true) 10 (pv 10)) (pq_int (p := true)))) (paq_cons (pq_list (by rfl) T.b_list (pq_ix (pq_var (p := true) 10 (pv 10)) (pq_int (p := true)))) (paq_nil (p := true))))))
    (psq_one (psq_if (ptq_w (pwq_or (ptq_not (ptq_tr (pq_isi (by rfl) T.b_isinstance (by rfl) T.b_bool (by rfl) (pq_var (p := true) 13 (pv 13))))) (pwq_or1 (ptq_ne hr (pq_var (p := true) 13 (pv 13)) (pq_var (p := true) 12 (pv 12))))))
      (psq_one (psq_ret (pq_bl (p := true))))
      psq_nil)))))
  (psq_one (psq_ret (pq_bl (p := true))))))))))))))))))
theorem ok_law (T : Txt K mg) : FnOk P w K mg base (L2.CX P w) 5 T.a_law T.fd_law ps_law (spF K 1 [] F_law) :=
  def_okD (k := 4) T.d_law sc_law (by decide) (by decide) fun cdv A outer s H E hr =>
  (psq_one (psq_ret (pq_and (pq_is (pq_callL (takes_of rfl rfl rfl rfl) (ok_zlaw_first_half T) (hr.mono (by decide)) (by rfl) T.d_zlaw_first_half.mg T.d_zlaw_first_half.fn.kp T.d_zlaw_first_half.b (paq_cons (pq_var (p := true) 0 (pv 0)) (paq_nil (p := true)))) (pq_bl (p := true))) (pq_one (pq_is (pq_callL (takes_of rfl rfl rfl rfl) (ok_zlaw_second_half T) (hr.mono (by decide)) (by rfl) T.d_zlaw_second_half.mg T.d_zlaw_second_half.fn.kp T.d_zlaw_second_half.b (paq_cons (pq_var (p := true) 0 (pv 0)) (paq_nil (p := true)))) (pq_bl (p := true)))))))
end
/-! the head -/
def D_admits : He.DefD := ⟨("admits", none), "admits", "admits", defArgs s_admits, defBody s_admits, defScope s_admits, [], []⟩
def D_within : He.DefD := ⟨("within", none), "within", "within", defArgs s_within, defBody s_within, defScope s_within, [], []⟩
def D_frame_of : He.DefD := ⟨("frame_of", none), "frame_of", "frame_of", defArgs s_frame_of, defBody s_frame_of, defScope s_frame_of, [], []⟩
def D_in_frame : He.DefD := ⟨("in_frame", none), "in_frame", "in_frame", defArgs s_in_frame, defBody s_in_frame, defScope s_in_frame, [], []⟩
def D_zlaw_draws : He.DefD := ⟨("_law_draws", none), "_law_draws", "_law_draws", defArgs s_zlaw_draws, defBody s_zlaw_draws, defScope s_zlaw_draws, [], []⟩
def D_zlaw_take : He.DefD := ⟨("_law_take", none), "_law_take", "_law_take", defArgs s_zlaw_take, defBody s_zlaw_take, defScope s_zlaw_take, [], []⟩
def D_zlaw_is_integer : He.DefD := ⟨("_law_is_integer", none), "_law_is_integer", "_law_is_integer", defArgs s_zlaw_is_integer, defBody s_zlaw_is_integer, defScope s_zlaw_is_integer, [], []⟩
def D_zlaw_numbers : He.DefD := ⟨("_law_numbers", none), "_law_numbers", "_law_numbers", defArgs s_zlaw_numbers, defBody s_zlaw_numbers, defScope s_zlaw_numbers, [], []⟩
def D_zlaw_all_numbers : He.DefD := ⟨("_law_all_numbers", none), "_law_all_numbers", "_law_all_numbers", defArgs s_zlaw_all_numbers, defBody s_zlaw_all_numbers, defScope s_zlaw_all_numbers, [], []⟩
def D_zlaw_marking : He.DefD := ⟨("_law_marking", none), "_law_marking", "_law_marking", defArgs s_zlaw_marking, defBody s_zlaw_marking, defScope s_zlaw_marking, [], []⟩
def D_zlaw_limit : He.DefD := ⟨("_law_limit", none), "_law_limit", "_law_limit", defArgs s_zlaw_limit, defBody s_zlaw_limit, defScope s_zlaw_limit, [], []⟩
def D_zlaw_limits : He.DefD := ⟨("_law_limits", none), "_law_limits", "_law_limits", defArgs s_zlaw_limits, defBody s_zlaw_limits, defScope s_zlaw_limits, [], []⟩
def D_zlaw_admits : He.DefD := ⟨("_law_admits", none), "_law_admits", "_law_admits", defArgs s_zlaw_admits, defBody s_zlaw_admits, defScope s_zlaw_admits, [], []⟩
def D_zlaw_admitted : He.DefD := ⟨("_law_admitted", none), "_law_admitted", "_law_admitted", defArgs s_zlaw_admitted, defBody s_zlaw_admitted, defScope s_zlaw_admitted, [], []⟩
def D_zlaw_within : He.DefD := ⟨("_law_within", none), "_law_within", "_law_within", defArgs s_zlaw_within, defBody s_zlaw_within, defScope s_zlaw_within, [], []⟩
def D_zlaw_greatest : He.DefD := ⟨("_law_greatest", none), "_law_greatest", "_law_greatest", defArgs s_zlaw_greatest, defBody s_zlaw_greatest, defScope s_zlaw_greatest, [], []⟩
def D_zlaw_cell : He.DefD := ⟨("_law_cell", none), "_law_cell", "_law_cell", defArgs s_zlaw_cell, defBody s_zlaw_cell, defScope s_zlaw_cell, [], []⟩
def D_zlaw_raised : He.DefD := ⟨("_law_raised", none), "_law_raised", "_law_raised", defArgs s_zlaw_raised, defBody s_zlaw_raised, defScope s_zlaw_raised, [], []⟩
def D_zlaw_first_half : He.DefD := ⟨("_law_first_half", none), "_law_first_half", "_law_first_half", defArgs s_zlaw_first_half, defBody s_zlaw_first_half, defScope s_zlaw_first_half, [], []⟩
def D_lesser : He.DefD := ⟨("lesser", none), "lesser", "lesser", defArgs s_lesser, defBody s_lesser, defScope s_lesser, [], []⟩
def D_limit_meet : He.DefD := ⟨("limit_meet", none), "limit_meet", "limit_meet", defArgs s_limit_meet, defBody s_limit_meet, defScope s_limit_meet, [], []⟩
def D_frame_meet : He.DefD := ⟨("frame_meet", none), "frame_meet", "frame_meet", defArgs s_frame_meet, defBody s_frame_meet, defScope s_frame_meet, [], []⟩
def D_frame_within : He.DefD := ⟨("frame_within", none), "frame_within", "frame_within", defArgs s_frame_within, defBody s_frame_within, defScope s_frame_within, [], []⟩
def D_zlaw_held : He.DefD := ⟨("_law_held", none), "_law_held", "_law_held", defArgs s_zlaw_held, defBody s_zlaw_held, defScope s_zlaw_held, [], []⟩
def D_zlaw_lesser : He.DefD := ⟨("_law_lesser", none), "_law_lesser", "_law_lesser", defArgs s_zlaw_lesser, defBody s_zlaw_lesser, defScope s_zlaw_lesser, [], []⟩
def D_zlaw_second_half : He.DefD := ⟨("_law_second_half", none), "_law_second_half", "_law_second_half", defArgs s_zlaw_second_half, defBody s_zlaw_second_half, defScope s_zlaw_second_half, [], []⟩
def D_law : He.DefD := ⟨("law", none), "law", "law", defArgs s_law, defBody s_law, defScope s_law, [], []⟩
def fn : List He.DefD := [D_admits, D_within, D_frame_of, D_in_frame, D_zlaw_draws, D_zlaw_take, D_zlaw_is_integer, D_zlaw_numbers, D_zlaw_all_numbers, D_zlaw_marking, D_zlaw_limit, D_zlaw_limits, D_zlaw_admits, D_zlaw_admitted, D_zlaw_within, D_zlaw_greatest, D_zlaw_cell, D_zlaw_raised, D_zlaw_first_half, D_lesser, D_limit_meet, D_frame_meet, D_frame_within, D_zlaw_held, D_zlaw_lesser, D_zlaw_second_half, D_law]
def fa : List He.Fa := [.glo "admits", .glo "within", .glo "frame_of", .glo "in_frame", .glo "_law_draws", .glo "_law_take", .glo "_law_is_integer", .glo "_law_numbers", .glo "_law_all_numbers", .glo "_law_marking", .glo "_law_limit", .glo "_law_limits", .glo "_law_admits", .glo "_law_admitted", .glo "_law_within", .glo "_law_greatest", .glo "_law_cell", .glo "_law_raised", .glo "_law_first_half", .glo "lesser", .glo "limit_meet", .glo "frame_meet", .glo "frame_within", .glo "_law_held", .glo "_law_lesser", .glo "_law_second_half", .glo "law", .free "bool", .free "int", .free "isinstance", .free "len", .free "list", .free "min", .free "range", .free "set", .free "sorted", .free "tuple", .int "ANY" (-1)]
abbrev R : PySem.W.OpenRow := PySem.W.OpenLaw.row PySem.Challenge.rw_netguild_k03_frame_meet_and_within
abbrev hk : PySem.W.Hook := He.hookD 4 fa fn
def ob (s : PySem.W.SharedT) : He.AlD := He.obsDG 4 fa fn (HandSHeadRun.getT s)
theorem ob_eq (s : PySem.W.SharedT) : ob s = hk.obs s.abs := He.obsDG_eq (HandSHeadRun.getT_eq s)
def loose : List Str := ["__name__", "ANY", "admits", "within", "frame_of", "in_frame", "lesser", "limit_meet", "frame_meet", "frame_within", "_law_draws", "_law_take", "_law_is_integer", "_law_numbers", "_law_all_numbers", "_law_marking", "_law_limit", "_law_limits", "_law_admits", "_law_admitted", "_law_within", "_law_greatest", "_law_cell", "_law_raised", "_law_held", "_law_lesser", "_law_first_half", "_law_second_half"]
theorem run (w : World) : HandSHeadRun.RunEq R (PySem.W.view R.prog [29]) hk ob 4000 loose w := by
  intro os
  kernel_rfl
theorem txt {K : PySem.W.Frag} {h : Heap} {mg : Str → Option Value} (X : K.In h) (G : h.Ns mainGlobals mg) (c : He.SaysD fa fn K) : Nonempty (Txt K mg) := by
  obtain ⟨f0, F0⟩ := c.def_ 0 (d := D_admits) rfl
  obtain ⟨f1, F1⟩ := c.def_ 1 (d := D_within) rfl
  obtain ⟨f2, F2⟩ := c.def_ 2 (d := D_frame_of) rfl
  obtain ⟨f3, F3⟩ := c.def_ 3 (d := D_in_frame) rfl
  obtain ⟨f4, F4⟩ := c.def_ 4 (d := D_zlaw_draws) rfl
  obtain ⟨f5, F5⟩ := c.def_ 5 (d := D_zlaw_take) rfl
  obtain ⟨f6, F6⟩ := c.def_ 6 (d := D_zlaw_is_integer) rfl
  obtain ⟨f7, F7⟩ := c.def_ 7 (d := D_zlaw_numbers) rfl
  obtain ⟨f8, F8⟩ := c.def_ 8 (d := D_zlaw_all_numbers) rfl
  obtain ⟨f9, F9⟩ := c.def_ 9 (d := D_zlaw_marking) rfl
  obtain ⟨f10, F10⟩ := c.def_ 10 (d := D_zlaw_limit) rfl
  obtain ⟨f11, F11⟩ := c.def_ 11 (d := D_zlaw_limits) rfl
  obtain ⟨f12, F12⟩ := c.def_ 12 (d := D_zlaw_admits) rfl
  obtain ⟨f13, F13⟩ := c.def_ 13 (d := D_zlaw_admitted) rfl
  obtain ⟨f14, F14⟩ := c.def_ 14 (d := D_zlaw_within) rfl
  obtain ⟨f15, F15⟩ := c.def_ 15 (d := D_zlaw_greatest) rfl
  obtain ⟨f16, F16⟩ := c.def_ 16 (d := D_zlaw_cell) rfl
  obtain ⟨f17, F17⟩ := c.def_ 17 (d := D_zlaw_raised) rfl
  obtain ⟨f18, F18⟩ := c.def_ 18 (d := D_zlaw_first_half) rfl
  obtain ⟨f19, F19⟩ := c.def_ 19 (d := D_lesser) rfl
  obtain ⟨f20, F20⟩ := c.def_ 20 (d := D_limit_meet) rfl
  obtain ⟨f21, F21⟩ := c.def_ 21 (d := D_frame_meet) rfl
  obtain ⟨f22, F22⟩ := c.def_ 22 (d := D_frame_within) rfl
  obtain ⟨f23, F23⟩ := c.def_ 23 (d := D_zlaw_held) rfl
  obtain ⟨f24, F24⟩ := c.def_ 24 (d := D_zlaw_lesser) rfl
  obtain ⟨f25, F25⟩ := c.def_ 25 (d := D_zlaw_second_half) rfl
  obtain ⟨f26, F26⟩ := c.def_ 26 (d := D_law) rfl
  exact ⟨⟨_, f0, ⟨F0, He.glo_ok X G (c.fact 0 (f := .glo "admits") rfl), FunD.bindsN (ps := ps_admits) F0 fun _ _ _ _ _ _ us hl => match us, hl with | [_, _], _ => rfl⟩,
    _, f1, ⟨F1, He.glo_ok X G (c.fact 1 (f := .glo "within") rfl), FunD.bindsN (ps := ps_within) F1 fun _ _ _ _ _ _ us hl => match us, hl with | [_, _], _ => rfl⟩,
    _, f2, ⟨F2, He.glo_ok X G (c.fact 2 (f := .glo "frame_of") rfl), FunD.bindsN (ps := ps_frame_of) F2 fun _ _ _ _ _ _ us hl => match us, hl with | [_], _ => rfl⟩,
    _, f3, ⟨F3, He.glo_ok X G (c.fact 3 (f := .glo "in_frame") rfl), FunD.bindsN (ps := ps_in_frame) F3 fun _ _ _ _ _ _ us hl => match us, hl with | [_, _], _ => rfl⟩,
    _, f4, ⟨F4, He.glo_ok X G (c.fact 4 (f := .glo "_law_draws") rfl), FunD.bindsN (ps := ps_zlaw_draws) F4 fun _ _ _ _ _ _ us hl => match us, hl with | [_, _], _ => rfl⟩,
    _, f5, ⟨F5, He.glo_ok X G (c.fact 5 (f := .glo "_law_take") rfl), FunD.bindsN (ps := ps_zlaw_take) F5 fun _ _ _ _ _ _ us hl => match us, hl with | [_, _], _ => rfl⟩,
    _, f6, ⟨F6, He.glo_ok X G (c.fact 6 (f := .glo "_law_is_integer") rfl), FunD.bindsN (ps := ps_zlaw_is_integer) F6 fun _ _ _ _ _ _ us hl => match us, hl with | [_], _ => rfl⟩,
    _, f7, ⟨F7, He.glo_ok X G (c.fact 7 (f := .glo "_law_numbers") rfl), FunD.bindsN (ps := ps_zlaw_numbers) F7 fun _ _ _ _ _ _ us hl => match us, hl with | [_, _, _], _ => rfl⟩,
    _, f8, ⟨F8, He.glo_ok X G (c.fact 8 (f := .glo "_law_all_numbers") rfl), FunD.bindsN (ps := ps_zlaw_all_numbers) F8 fun _ _ _ _ _ _ us hl => match us, hl with | [_, _, _], _ => rfl⟩,
    _, f9, ⟨F9, He.glo_ok X G (c.fact 9 (f := .glo "_law_marking") rfl), FunD.bindsN (ps := ps_zlaw_marking) F9 fun _ _ _ _ _ _ us hl => match us, hl with | [_, _, _], _ => rfl⟩,
    _, f10, ⟨F10, He.glo_ok X G (c.fact 10 (f := .glo "_law_limit") rfl), FunD.bindsN (ps := ps_zlaw_limit) F10 fun _ _ _ _ _ _ us hl => match us, hl with | [_, _, _], _ => rfl⟩,
    _, f11, ⟨F11, He.glo_ok X G (c.fact 11 (f := .glo "_law_limits") rfl), FunD.bindsN (ps := ps_zlaw_limits) F11 fun _ _ _ _ _ _ us hl => match us, hl with | [_, _, _, _], _ => rfl⟩,
    _, f12, ⟨F12, He.glo_ok X G (c.fact 12 (f := .glo "_law_admits") rfl), FunD.bindsN (ps := ps_zlaw_admits) F12 fun _ _ _ _ _ _ us hl => match us, hl with | [_, _], _ => rfl⟩,
    _, f13, ⟨F13, He.glo_ok X G (c.fact 13 (f := .glo "_law_admitted") rfl), FunD.bindsN (ps := ps_zlaw_admitted) F13 fun _ _ _ _ _ _ us hl => match us, hl with | [_, _], _ => rfl⟩,
    _, f14, ⟨F14, He.glo_ok X G (c.fact 14 (f := .glo "_law_within") rfl), FunD.bindsN (ps := ps_zlaw_within) F14 fun _ _ _ _ _ _ us hl => match us, hl with | [_, _], _ => rfl⟩,
    _, f15, ⟨F15, He.glo_ok X G (c.fact 15 (f := .glo "_law_greatest") rfl), FunD.bindsN (ps := ps_zlaw_greatest) F15 fun _ _ _ _ _ _ us hl => match us, hl with | [_], _ => rfl⟩,
    _, f16, ⟨F16, He.glo_ok X G (c.fact 16 (f := .glo "_law_cell") rfl), FunD.bindsN (ps := ps_zlaw_cell) F16 fun _ _ _ _ _ _ us hl => match us, hl with | [_, _], _ => rfl⟩,
    _, f17, ⟨F17, He.glo_ok X G (c.fact 17 (f := .glo "_law_raised") rfl), FunD.bindsN (ps := ps_zlaw_raised) F17 fun _ _ _ _ _ _ us hl => match us, hl with | [_, _], _ => rfl⟩,
    _, f18, ⟨F18, He.glo_ok X G (c.fact 18 (f := .glo "_law_first_half") rfl), FunD.bindsN (ps := ps_zlaw_first_half) F18 fun _ _ _ _ _ _ us hl => match us, hl with | [_], _ => rfl⟩,
    _, f19, ⟨F19, He.glo_ok X G (c.fact 19 (f := .glo "lesser") rfl), FunD.bindsN (ps := ps_lesser) F19 fun _ _ _ _ _ _ us hl => match us, hl with | [_, _], _ => rfl⟩,
    _, f20, ⟨F20, He.glo_ok X G (c.fact 20 (f := .glo "limit_meet") rfl), FunD.bindsN (ps := ps_limit_meet) F20 fun _ _ _ _ _ _ us hl => match us, hl with | [_, _], _ => rfl⟩,
    _, f21, ⟨F21, He.glo_ok X G (c.fact 21 (f := .glo "frame_meet") rfl), FunD.bindsN (ps := ps_frame_meet) F21 fun _ _ _ _ _ _ us hl => match us, hl with | [_, _], _ => rfl⟩,
    _, f22, ⟨F22, He.glo_ok X G (c.fact 22 (f := .glo "frame_within") rfl), FunD.bindsN (ps := ps_frame_within) F22 fun _ _ _ _ _ _ us hl => match us, hl with | [_, _], _ => rfl⟩,
    _, f23, ⟨F23, He.glo_ok X G (c.fact 23 (f := .glo "_law_held") rfl), FunD.bindsN (ps := ps_zlaw_held) F23 fun _ _ _ _ _ _ us hl => match us, hl with | [_, _], _ => rfl⟩,
    _, f24, ⟨F24, He.glo_ok X G (c.fact 24 (f := .glo "_law_lesser") rfl), FunD.bindsN (ps := ps_zlaw_lesser) F24 fun _ _ _ _ _ _ us hl => match us, hl with | [_, _], _ => rfl⟩,
    _, f25, ⟨F25, He.glo_ok X G (c.fact 25 (f := .glo "_law_second_half") rfl), FunD.bindsN (ps := ps_zlaw_second_half) F25 fun _ _ _ _ _ _ us hl => match us, hl with | [_], _ => rfl⟩,
    _, f26, ⟨F26, He.glo_ok X G (c.fact 26 (f := .glo "law") rfl), FunD.bindsN (ps := ps_law) F26 fun _ _ _ _ _ _ us hl => match us, hl with | [_], _ => rfl⟩,
    He.free_ok X G (c.fact 27 (f := .free "bool") rfl),
    He.free_ok X G (c.fact 28 (f := .free "int") rfl),
    He.free_ok X G (c.fact 29 (f := .free "isinstance") rfl),
    He.free_ok X G (c.fact 30 (f := .free "len") rfl),
    He.free_ok X G (c.fact 31 (f := .free "list") rfl),
    He.free_ok X G (c.fact 32 (f := .free "min") rfl),
    He.free_ok X G (c.fact 33 (f := .free "range") rfl),
    He.free_ok X G (c.fact 34 (f := .free "set") rfl),
    He.free_ok X G (c.fact 35 (f := .free "sorted") rfl),
    He.free_ok X G (c.fact 36 (f := .free "tuple") rfl),
    He.int_ok X G (c.fact 37 (f := .int "ANY" (-1)) rfl),
    fun s v => FunD.bindsA (ps := ps_law) F26 (fun _ _ _ _ _ _ us hl => match us, hl with | [_], _ => rfl) s [v] rfl⟩⟩
theorem holds_of (top : ∀ ns : List Int, ns.length ≤ 63 → F_law [.z (.kls (ns.map .int))] = some (.rt (.z (.bl true)) [])) : PySem.Challenge.rw_netguild_k03_frame_meet_and_within.Holds := by
  open PySem.W PySem.Calls in
  w_on; o_law
  refine HandSHeadRun.head_any (r := OpenLaw.row PySem.Challenge.rw_netguild_k03_frame_meet_and_within) (q := view (OpenLaw.row PySem.Challenge.rw_netguild_k03_frame_meet_and_within).prog [29]) (H := hk) (ob := ob) (M := 4000) (loose := loose) (d := HandSHeadRun.topDef (OpenLaw.row PySem.Challenge.rw_netguild_k03_frame_meet_and_within).prog 29) (kwd := []) ob_eq
    (by kernel_rfl) (fun s => by kernel_rfl) run (by kernel_rfl) (by kernel_rfl) (by kernel_rfl) (by rfl) (by first | assumption | decide +kernel) (by decide +kernel) ⟨rfl, rfl, rfl, rfl, rfl, by decide +kernel⟩ ?hw ?hc
  case hw => w_witness2
  case hc =>
    refine L2.walk_ofE (l := PySem.Challenge.rw_netguild_k03_frame_meet_and_within) (n := 63) (k := 5) (x := "script") (CX := L2.CX0) rfl (by decide) (by kernel_rfl) ⟨rfl, by decide, by decide⟩ ?F (fun _ _ _ _ z => z)
    intro w mg f0 h Y G hmg0
    obtain ⟨K, KX, c⟩ := Y
    have hmg : mg ("law" : PySem.Str) = some (.ref f0) := by
      have e : (HandSHeadRun.topDef (OpenLaw.row PySem.Challenge.rw_netguild_k03_frame_meet_and_within).prog 29).name = ("law" : PySem.Str) := by kernel_rfl
      rw [← e]
      exact hmg0
    obtain ⟨T⟩ := txt KX G c
    have e := hmg.symm.trans T.d_law.mg
    cases e
    exact ⟨K, T.fd_law, DL.spLaw K, KX, T.bl, fun H a ns hl _ hS => ⟨a, ns, rfl, hS, hl, fun _ => rfl⟩, fun base _ _ => DL.law_fn (ok_law T) top⟩
end DL.k03

namespace DL.k03
open PySem PySem.Spec PyProof.Rows L2 DL
noncomputable abbrev FIs : FSem := fnOf 1 1 [] gIsInt
noncomputable abbrev FAll : FSem := fnOf 3 4 [] (gAll FNum)
noncomputable abbrev FGr : FSem := fnOf 1 5 [] (gLeast FWinL)
noncomputable abbrev FInP : FSem := fnOf 2 3 [] (gAnyIt (tIn FAdmP))
noncomputable abbrev FInL : FSem := fnOf 2 3 [] (gAnyIt (tIn FAdmL))
noncomputable abbrev FHeld : FSem := fnOf 2 3 [] (gAnyIt (tHe FWinL))
noncomputable abbrev FFM : FSem := fnOf 2 5 [] (gMeet FLMeet FFr)
noncomputable abbrev FFw : FSem := fnOf 2 5 [] (gFw FWinP)
noncomputable abbrev FLims : FSem := fnOf 4 5 [true] (gMarks FLim)
noncomputable abbrev FRz : FSem := fnOf 2 4 [] gRz
theorem x1 : F_zlaw_draws = FDraws := rfl
theorem x2 : F_zlaw_take = FTake := rfl
theorem x3 : F_zlaw_cell = FCell := rfl
theorem x4 : F_zlaw_marking = FMark := rfl
theorem x5 : F_zlaw_limit = FLim := rfl
theorem x6 : F_zlaw_limits = FLims := rfl
theorem x7 : F_zlaw_raised = FRz := rfl
theorem x8 : F_frame_of = FFr := rfl
theorem x9 : F_zlaw_greatest = FGr := rfl
theorem x10 : F_zlaw_all_numbers = FAll := rfl
theorem x11 : F_in_frame = FInP := rfl
theorem x12 : F_zlaw_admitted = FInL := rfl
theorem x13 : F_within = FWinP := rfl
theorem x14 : F_zlaw_within = FWinL := rfl
theorem x15 : F_admits = FAdmP := rfl
theorem x16 : F_zlaw_admits = FAdmL := rfl
theorem x17 : F_zlaw_held = FHeld := rfl
theorem x18 : F_frame_meet = FFM := rfl
theorem x19 : F_frame_within = FFw := rfl
theorem x20 : F_zlaw_lesser = FLesL := rfl
theorem hLims (n k : Nat) (most : Int) (hm : 0 ≤ most) (hn : n < 10000) (hk : k < 10000) (xs : List Int) : ∃ (vs : List (List Int)) (xs' : List Int), FLims [.lst (xs.map iT), iT n, iT k, iT most] = some (.rt (.lst (vs.map fun v => .z (dT v))) [.lst (xs'.map iT)]) ∧ vs.length = k ∧ ∀ v ∈ vs, Lim n v := lims_ev n k most hm hn hk xs
theorem hRz (vs : List (List Int)) (b : Int) (hs : vs.length < 10000) (hv : ∀ v ∈ vs, v.length < 10000) : FRz [.z (LT vs), iT b] = some (.rt (.lst ((vs.map fun v => v.map (rz b)).map fun v => .z (dT v))) []) := rz_ev vs b hs hv
theorem hLim (n : Nat) (most : Int) (hm : 0 ≤ most) (hn : n < 10000) (xs : List Int) : ∃ (vs xs' : List Int), FLim [.lst (xs.map iT), iT n, iT most] = some (.rt (.z (dT vs)) [.lst (xs'.map iT)]) ∧ Lim n vs := lim_ev n most hm hn xs
/-- limits raised -/
theorem lh5 (c : Int) (hc : 0 < c) (hc2 : c < 100) (S : Option T) (rest : En) (n : Nat) (hn : n < 100) (b : Int) (hb : 0 ≤ b) (xs : List Int) : ∃ (ms : List (List Int)) (xs' : List Int), ms.length < c ∧ (∀ m ∈ ms, Lim n m) ∧
    (sCallL 2 FRz (sCons true (sCallT 4 [true] FLims (sCons false (sVar 1) (sCons false (sVar 2) (sCons true (sCallT 2 [true] FTake (sCons true (sVar 1) (sCons true (sC (.int c)) sNil))) (sCons true (sC (.int 3)) sNil))))) (sCons true (sVar 3) sNil))) (S :: some (.lst (xs.map iT)) :: some (iT n) :: some (iT b) :: rest) =
      some (.ok (.t (TL ms)) (S :: some (.lst (xs'.map iT)) :: some (iT n) :: some (iT b) :: rest)) := by
  have h := hTake xs c hc
  have hbd := dtake_bd xs hc
  obtain ⟨k, hk⟩ : ∃ k : Nat, (dtake xs c).1 = k := ⟨(dtake xs c).1.toNat, by omega⟩
  rw [hk] at h hbd
  obtain ⟨vs, xs', h2, hl, hg⟩ := hLims n k 3 (by decide) (by omega) (by omega) (dtake xs c).2
  have h3 := hRz vs b (by omega) fun v hv => by rw [(hg v hv).1]; omega
  have hcl := cl_dT (vs.map fun v => v.map (rz b))
  have e1 : (sCallT 4 [true] FLims (sCons false (sVar 1) (sCons false (sVar 2) (sCons true (sCallT 2 [true] FTake (sCons true (sVar 1) (sCons true (sC (.int c)) sNil))) (sCons true (sC (.int 3)) sNil))))) (S :: some (.lst (xs.map iT)) :: some (iT n) :: some (iT b) :: rest) = some (.ok (.t (TL vs)) (S :: some (.lst (xs'.map iT)) :: some (iT n) :: some (iT b) :: rest)) := by
    simp [h, h2]
  refine ⟨vs.map fun v => v.map (rz b), xs', by rw [List.length_map]; omega, fun m hm => ?_, ?_⟩
  · obtain ⟨v, hv, rfl⟩ := List.mem_map.mp hm
    exact lim_rz hb (hg v hv)
  · rw [sCallL_ap, sCons_ap, e1]
    simp only [sCons_ap, sVar_ap, sNil_ap, List.getElem?_cons_succ, List.getElem?_cons_zero, Bool.true_or, if_true, rds, Opd.rd, T.er, ers_mapf, List.length_cons, List.length_nil, List.map_cons, List.map_nil]
    rw [h3]
    simp only [hcl, if_true]
section
variable (S d2 d3 d5 d6 d7 d8 d9 d10 d11 d12 d13 d14 : Option T) (n : Nat) (b : Int)
theorem lh6 (ms : List (List Int)) (hg : ∀ m ∈ ms, Lim n m) (hl : ms.length ≤ 8) (xs : List Int) : ∃ (ms' : List (List Int)) (xs' : List Int), ms'.length ≤ 9 ∧ (∀ m ∈ ms', Lim n m) ∧
    (sIfS (sAnd (sTb (sO oGt (sCons true (sO (oS gLen) (sCons true (sVar 4) sNil)) (sCons true (sC (.int 0)) sNil)))) (sTb (sO (oS gEq) (sCons true (sCallT 2 [true] FTake (sCons true (sVar 1) (sCons true (sC (.int 2)) sNil))) (sCons true (sC (.int 0)) sNil)))))
    (sApp 4 (sO oIx (sCons false (sVar 4) (sCons true (sCallT 2 [true] FTake (sCons true (sVar 1) (sCons true (sO (oS gLen) (sCons true (sVar 4) sNil)) sNil))) sNil))))
    sNext) [S, some (.lst (xs.map iT)), d2, d3, some (.lst (ms.map fun v => .z (dT v))), d5, d6, d7, d8, d9, d10, d11, d12, d13, d14] = some (.nx [S, some (.lst (xs'.map iT)), d2, d3, some (.lst (ms'.map fun v => .z (dT v))), d5, d6, d7, d8, d9, d10, d11, d12, d13, d14]) := by
  by_cases h0 : ms.length = 0
  · have : ms = [] := List.length_eq_zero_iff.mp h0
    subst this
    exact ⟨[], xs, by simp, hg, by simp⟩
  · have hp : (0 : Int) < ms.length := by omega
    have h1 := hTake xs 2 (by decide)
    by_cases h2 : (dtake xs 2).1 = 0
    · rw [h2] at h1
      have h3 := hTake (dtake xs 2).2 ms.length hp
      have hb := dtake_bd (dtake xs 2).2 hp
      obtain ⟨k, hk⟩ : ∃ k : Nat, (dtake (dtake xs 2).2 ms.length).1 = k := ⟨(dtake (dtake xs 2).2 ms.length).1.toNat, by omega⟩
      rw [hk] at h3 hb
      have hk2 : k < ms.length := by omega
      have hs : ms.length < sizeLine := Nat.lt_trans (by omega) sizeLine_val
      have ha : atI (ms.map fun v => T.z (dT v)) (k : Int) = some (.z (dT ms[k])) := by
        rw [atI_get _ _ (by simpa using hk2)]
        simp
      have hp' : 0 < ms.length := by omega
      refine ⟨ms ++ [ms[k]], (dtake (dtake xs 2).2 ms.length).2, by simp; omega, fun m hm => ?_, by simp [hp', h1, h3, ha, hs]⟩
      rcases List.mem_append.mp hm with z | z
      · exact hg m z
      · rw [List.mem_singleton.mp z]; exact hg _ (List.getElem_mem hk2)
    · have hp' : 0 < ms.length := by omega
      exact ⟨ms, (dtake xs 2).2, by omega, hg, by simp [hp', h1, h2]⟩
theorem lh7 (A : Option T) (hn : n < 100) (hb : 0 ≤ b) (xs : List Int) : ∃ (x xs' : List Int), Lim n x ∧
    (sSet 5 (sO oIx (sCons true (sCallL 2 FRz (sCons true (sTake hLst (sCons true (sCallT 3 [true] FLim (sCons true (sVar 1) (sCons true (sVar 2) (sCons true (sC (.int 3)) sNil)))) sNil)) (sCons true (sVar 3) sNil))) (sCons true (sC (.int 0)) sNil)))) [S, some (.lst (xs.map iT)), some (iT n), some (iT b), A, none, d6, d7, d8, d9, d10, d11, d12, d13, d14] =
     some (.nx [S, some (.lst (xs'.map iT)), some (iT n), some (iT b), A, some (.z (dT x)), d6, d7, d8, d9, d10, d11, d12, d13, d14]) := by
  obtain ⟨v, xs', h2, hl⟩ := hLim n 3 (by decide) (by omega) xs
  have h3 : FRz [T.z (.lst [dT v]), iT b] = some (.rt (.lst [T.z (dT (v.map (rz b)))]) []) := hRz [v] b (by simp) fun w hw => by rw [List.mem_singleton.mp hw, hl.1]; omega
  have hcl : (T.lst [T.z (dT (v.map (rz b)))]).clean = true := cl_dT [v.map (rz b)]
  refine ⟨v.map (rz b), xs', lim_rz hb hl, ?_⟩
  have h5 : 1 ≤ sizeLine := Nat.le_trans (by decide : 1 ≤ 10000) (Nat.le_of_lt sizeLine_val)
  have ha : atI [T.z (dT (v.map (rz b)))] 0 = some (.z (dT (v.map (rz b)))) := rfl
  simp [h2, h3, hcl, h5, ha]
theorem lh8 (A L : Option T) (hn : n < 100) (xs : List Int) : ∃ (x xs' : List Int), x.length = n ∧
    (sSet 6 (sO oTupOf (sCons true (sLc [14] (sCallT 3 [true] FMark (sCons true (sVar 1) (sCons true (sVar 2) (sCons true (sC (.int 4)) sNil)))) (gmName 14) sYes (sO oAdd (sCons true (sVar 3) (sCons true (sVar 14) sNil)))) sNil))) [S, some (.lst (xs.map iT)), some (iT n), some (iT b), A, L, none, d7, d8, d9, d10, d11, d12, d13, none] =
      some (.nx [S, some (.lst (xs'.map iT)), some (iT n), some (iT b), A, L, some (.z (dT x)), d7, d8, d9, d10, d11, d12, d13, none]) := by
  obtain ⟨v, xs', h2, hl, hg⟩ := hMark n 4 (by decide) (by omega) xs
  refine ⟨v.map (b + ·), xs', by rw [List.length_map]; exact hl, ?_⟩
  have h := compF_map (own := [14]) (s := gmName 14) (fe := sO oAdd (sCons true (sVar 3) (sCons true (sVar 14) sNil))) D.int (fun x => iT (b + x)) (env := [S, some (.lst (xs'.map iT)), some (iT n), some (iT b), A, L, none, d7, d8, d9, d10, d11, d12, d13, none]) v (by omega) fun x _ => ⟨[S, some (.lst (xs'.map iT)), some (iT n), some (iT b), A, L, none, d7, d8, d9, d10, d11, d12, d13, some (iT x)], .t (iT (b + x)), [S, some (.lst (xs'.map iT)), some (iT n), some (iT b), A, L, none, d7, d8, d9, d10, d11, d12, d13, some (iT x)], [S, some (.lst (xs'.map iT)), some (iT n), some (iT b), A, L, none, d7, d8, d9, d10, d11, d12, d13, some (iT x)], rfl, rfl, rfl, rfl⟩
  simp [h, h2]
end
theorem first_half (ns : List Int) : F_zlaw_first_half [.z (.kls (ns.map D.int))] = some (.rt (bT true) []) := by
  have key : ∃ e, g_zlaw_first_half [some (.z (.kls (ns.map D.int))), none, none, none, none, none, none, none, none, none, none, none, none, none, none] = some (.rt (bT true) e) := by
    unfold g_zlaw_first_half
    rw [x1, x2, x3, x4, x5, x6, x7, x8, x9, x10, x11, x12, x13, x14, x15, x16]
    obtain ⟨xs, e1⟩ := open1 ns [none, none, none, none, none, none, none, none, none, none, none, none, none] 220 220 rfl (by decide)
    rw [sSeq_nx e1]
    obtain ⟨n, xs2, hn0, hn, e2⟩ := open2 [none, none, none, none, none, none, none, none, none, none, none, none] (some (.z (.kls (ns.map D.int)))) none xs
    rw [sSeq_nx e2, sSeq_nx (e := [some (.z (.kls (ns.map D.int))), some (.lst (xs2.map iT)), some (iT n), some (iT 0), none, none, none, none, none, none, none, none, none, none, none]) rfl]
    obtain ⟨b, xs3, hb, e4⟩ := open4 ns [none, none, none, none, none, none, none, none, none, none, none] (some (iT n)) xs2
    rw [sSeq_nx e4]
    generalize some (T.z (.kls (ns.map D.int))) = S
    obtain ⟨ms0, xs4, hl0, hg0, e5⟩ := lh5 9 (by decide) (by decide) S [none, none, none, none, none, none, none, none, none, none, none] n hn b hb xs3
    rw [sSeq_nx (e := [S, some (.lst (xs4.map iT)), some (iT n), some (iT b), some (TL ms0), none, none, none, none, none, none, none, none, none, none]) (by rw [sSet_ap, e5]; rfl)]
    obtain ⟨ms, xs5, hl, hg, e6⟩ := lh6 S (some (iT n)) (some (iT b)) none none none none none none none none none none n ms0 hg0 (by omega) xs4
    rw [sSeq_nx e6]
    obtain ⟨l, xs6, hL, e7⟩ := lh7 S none none none none none none none none none n b (some (TL ms)) hn hb xs5
    rw [sSeq_nx e7]
    obtain ⟨x, xs7, hx, e8⟩ := lh8 S none none none none none none none n b (some (TL ms)) (some (.z (dT l))) hn xs6
    rw [sSeq_nx e8]
    generalize some (T.lst (xs7.map iT)) = d1
    have hlen : ∀ m ∈ ms, m.length = n := fun m hm => (hg m hm).1
    have hF : FFr _ = _ := frame_ev ms n (by omega) hn0 hg (by omega)
    have hG : FGr _ = _ := great_ev ms n (by omega) hn0 hlen (by omega)
    obtain ⟨Q, hQ⟩ : ∃ Q, topL winL ms = Q := ⟨_, rfl⟩
    rw [hQ] at hF hG
    have hA : FAll _ = _ := all_ev Q n (-1) fun m hm => hg m (top_sub (by rw [hQ]; exact hm))
    have hI : FInP _ = _ := inP_ev ms x (n := n) (by omega) hg hx
    have hLI : FInL _ = _ := inL_ev ms x (n := n) (by omega) hlen hx
    have hcl := cl_dT Q
    rw [sSeq_nx (e := [S, d1, some (iT n), some (iT b), some (TL ms), some (.z (dT l)), some (.z (dT x)), some (TL ms), none, none, none, none, none, none, none]) (by simp)]
    rw [sSeq_nx (e := [S, d1, some (iT n), some (iT b), some (TL ms), some (.z (dT l)), some (.z (dT x)), some (TL ms), some (TL Q), none, none, none, none, none, none]) (by simp [hF, hcl])]
    rw [sSeq_nx (e := [S, d1, some (iT n), some (iT b), some (TL ms), some (.z (dT l)), some (.z (dT x)), some (TL ms), some (TL Q), none, none, none, none, none, none]) (by simp [hA, hG, hcl])]
    rw [sSeq_nx (e := [S, d1, some (iT n), some (iT b), some (TL ms), some (.z (dT l)), some (.z (dT x)), some (TL ms), some (TL Q), some (bT (admS ms x)), none, none, none, none, none]) (by simp [hI])]
    rw [sSeq_nx (e := [S, d1, some (iT n), some (iT b), some (TL ms), some (.z (dT l)), some (.z (dT x)), some (TL ms), some (TL Q), some (bT (admS ms x)), none, none, none, none, none]) (by simp [hLI])]
    have hs : ms.length + 1 ≤ sizeLine := Nat.le_trans (by omega : ms.length + 1 ≤ 10000) (Nat.le_of_lt sizeLine_val)
    have h1s : 1 ≤ sizeLine := Nat.le_trans (by omega : 1 ≤ 10000) (Nat.le_of_lt sizeLine_val)
    have e9 : (sO oAdd (sCons false (sVar 4) (sCons true (sTake hLst (sCons true (sVar 5) sNil)) sNil))) [S, d1, some (iT n), some (iT b), some (TL ms), some (.z (dT l)), some (.z (dT x)), some (TL ms), some (TL Q), some (bT (admS ms x)), none, none, none, none, none] = some (.ok (.t (TL (ms ++ [l]))) [S, d1, some (iT n), some (iT b), some (TL ms), some (.z (dT l)), some (.z (dT x)), some (TL ms), some (TL Q), some (bT (admS ms x)), none, none, none, none, none]) := by
      simp [hs, h1s]
    obtain ⟨e, h1, o10, o11, o12, o13, rfl⟩ := forF_all (s := gmName 10) (g := _) (ds := (ms ++ [l]).map dT) (fun e => ∃ o10 o11 o12 o13, e = [S, d1, some (iT n), some (iT b), some (TL ms), some (.z (dT l)), some (.z (dT x)), some (TL ms), some (TL Q), some (bT (admS ms x)), o10, o11, o12, o13, none])
      (env := [S, d1, some (iT n), some (iT b), some (TL ms), some (.z (dT l)), some (.z (dT x)), some (TL ms), some (TL Q), some (bT (admS ms x)), none, none, none, none, none]) ⟨none, none, none, none, rfl⟩ fun d hd env i => by
        obtain ⟨o10, o11, o12, o13, rfl⟩ := i
        obtain ⟨m, hm, rfl⟩ := List.mem_map.mp hd
        have hml : Lim n m := by
          rcases List.mem_append.mp hm with z | z
          · exact hg m z
          · rw [List.mem_singleton.mp z]; exact hL
        have c1 : FWinP _ = _ := winP_ev l m hL hml (by omega)
        have c2 : FWinL _ = _ := winL_ev l m hL.1 hml.1 (by omega)
        have c3 : FWinP _ = _ := winP_ev m l hml hL (by omega)
        have c4 : FWinL _ = _ := winL_ev m l hml.1 hL.1 (by omega)
        have c5 : FAdmP _ = _ := admP_ev m x hml hx (by omega)
        have c6 : FAdmL _ = _ := admL_ev m x hml.1 hx (by omega)
        exact ⟨_, [S, d1, some (iT n), some (iT b), some (TL ms), some (.z (dT l)), some (.z (dT x)), some (TL ms), some (TL Q), some (bT (admS ms x)), some (.z (dT m)), some (bT (winL l m)), some (bT (winL m l)), some (bT (admL m x)), none], rfl, .inl (show (sSeq (sSet 11 (sCallL 2 FWinP (sCons true (sVar 5) (sCons true (sVar 10) sNil))))
    (sSeq (sSet 12 (sCallL 2 FWinP (sCons true (sVar 10) (sCons true (sVar 5) sNil))))
    (sSeq (sSet 13 (sCallL 2 FAdmP (sCons true (sVar 10) (sCons true (sVar 6) sNil))))
    (sSeq (sIfS (sOr (sNot (sTr (sO (oS (gIsi "bool")) (sCons true (sVar 11) sNil)))) (sOr (sNot (sTr (sO (oS (gIsi "bool")) (sCons true (sVar 12) sNil)))) (sNot (sTr (sO (oS (gIsi "bool")) (sCons true (sVar 13) sNil))))))
      (sRet (sC (.bl false)))
      sNext)
    (sIfS (sOr (sTb (sO (oS gNe) (sCons true (sVar 11) (sCons true (sCallL 2 FWinL (sCons true (sVar 5) (sCons true (sVar 10) sNil))) sNil)))) (sOr (sTb (sO (oS gNe) (sCons true (sVar 12) (sCons true (sCallL 2 FWinL (sCons true (sVar 10) (sCons true (sVar 5) sNil))) sNil)))) (sTb (sO (oS gNe) (sCons true (sVar 13) (sCons true (sCallL 2 FAdmL (sCons true (sVar 10) (sCons true (sVar 6) sNil))) sNil))))))
      (sRet (sC (.bl false)))
      sNext))))) _ = _ by simp [c1, c2, c3, c4, c5, c6]), some (.z (dT m)), some (bT (winL l m)), some (bT (winL m l)), some (bT (admL m x)), rfl⟩
    refine ⟨[S, d1, some (iT n), some (iT b), some (TL ms), some (.z (dT l)), some (.z (dT x)), some (TL ms), some (TL Q), some (bT (admS ms x)), o10, o11, o12, o13, none], ?_⟩
    refine (sSeq_nx (e := [S, d1, some (iT n), some (iT b), some (TL ms), some (.z (dT l)), some (.z (dT x)), some (TL ms), some (TL Q), some (bT (admS ms x)), o10, o11, o12, o13, none]) ?_).trans rfl
    rw [sFor_ap, e9]
    simp only [T.els, T.elsL, zs_mapz]
    exact h1
  obtain ⟨e, h⟩ := key
  exact fn_rt rfl h
end DL.k03

namespace DL.k03
open PySem PySem.Spec PyProof.Rows L2 DL
theorem okMul01 (i j : Int) (h : i = 0 ∨ i = 1) : okMul i j = true := by
  rw [okMul_eq, p64]
  exact decide_eq_true (.inl (by omega))
section
variable (S d7 d9 d10 d11 d12 d13 d15 : Option T) (n : Nat) (b : Int)
noncomputable def gUpE : EM Opd := (sO oAdd (sCons false (sVar 14) (sCons true (sO oMul (sCons false (sO (oS gInt) (sCons true (sO oGe (sCons true (sVar 14) (sCons true (sC (.int 0)) sNil))) sNil)) (sCons true (sCallT 2 [true] FTake (sCons true (sVar 1) (sCons true (sC (.int 2)) sNil))) sNil))) sNil)))
theorem upE_ev (B v m6 : Option T) (x : Int) (hx : -1 ≤ x) (xs : List Int) : ∃ (y : Int) (xs' : List Int), -1 ≤ y ∧ gUpE [S, some (.lst (xs.map iT)), some (iT n), some (iT b), none, B, m6, d7, v, d9, d10, d11, d12, d13, some (iT x), d15] = some (.ok (.t (iT y)) [S, some (.lst (xs'.map iT)), some (iT n), some (iT b), none, B, m6, d7, v, d9, d10, d11, d12, d13, some (iT x), d15]) := by
  have h := hTake xs 2 (by decide)
  have hb := dtake_bd xs (n := 2) (by decide)
  by_cases h0 : 0 ≤ x
  · refine ⟨x + 1 * (dtake xs 2).1, (dtake xs 2).2, by omega, ?_⟩
    have hk := okMul01 1 (dtake xs 2).1 (.inr rfl)
    unfold gUpE
    simp [h, h0, hk]
  · refine ⟨x + 0 * (dtake xs 2).1, (dtake xs 2).2, by omega, ?_⟩
    have hk := okMul01 0 (dtake xs 2).1 (.inl rfl)
    unfold gUpE
    simp [h, h0, hk]
theorem up7c (B m6 : Option T) (v : List Int) (hv : Lim n v) (hn : n < 10000) (xs : List Int) : ∃ (v' xs' : List Int), Lim n v' ∧
    (sO oTupOf (sCons true (sLcN [14] 8 (gmName 14) sYes gUpE) sNil)) [S, some (.lst (xs.map iT)), some (iT n), some (iT b), none, B, m6, d7, some (.z (dT v)), d9, d10, d11, d12, d13, none, d15] =
      some (.ok (.t (.z (dT v'))) [S, some (.lst (xs'.map iT)), some (iT n), some (iT b), none, B, m6, d7, some (.z (dT v)), d9, d10, d11, d12, d13, none, d15]) := by
  obtain ⟨ts, e, h1, vs, xs', rfl, rfl, h2, h3⟩ := compF_inv (own := [14]) (s := gmName 14) (fc := sYes) (fe := gUpE)
    (fun p acc env => ∃ vs xs' : List Int, acc = vs.map iT ∧ env = [S, some (.lst (xs'.map iT)), some (iT n), some (iT b), none, B, m6, d7, some (.z (dT v)), d9, d10, d11, d12, d13, none, d15] ∧ vs.length = p.length ∧ ∀ x ∈ vs, -1 ≤ x) (ds := v.map D.int) (env := [S, some (.lst (xs.map iT)), some (iT n), some (iT b), none, B, m6, d7, some (.z (dT v)), d9, d10, d11, d12, d13, none, d15]) (by rw [List.length_map, hv.1]; exact hn) ⟨[], xs, rfl, rfl, rfl, fun _ h => nomatch h⟩ fun p d q acc env hx _ i => by
      obtain ⟨vs, xs', rfl, rfl, hl, hd⟩ := i
      have hm : d ∈ v.map D.int := by rw [hx]; simp
      obtain ⟨x, hxv, rfl⟩ := List.mem_map.mp hm
      obtain ⟨y, ys, hy, e⟩ := upE_ev S d7 d9 d10 d11 d12 d13 d15 n b B (some (.z (dT v))) m6 x (hv.2 x hxv) xs'
      refine ⟨[S, some (.lst (xs'.map iT)), some (iT n), some (iT b), none, B, m6, d7, some (.z (dT v)), d9, d10, d11, d12, d13, some (iT x), d15], rfl, .inl ⟨_, .t (iT y), _, iT y, _, rfl, e, rfl, vs ++ [y], ys, by simp, rfl, by simp [hl], ?_⟩⟩
      intro z hz
      rcases List.mem_append.mp hz with w | w
      · exact hd z w
      · rw [List.mem_singleton.mp w]; exact hy
  refine ⟨vs, xs', ⟨by rw [h2, List.length_map]; exact hv.1, h3⟩, ?_⟩
  have e1 : (sLcN [14] 8 (gmName 14) sYes gUpE) [S, some (.lst (xs.map iT)), some (iT n), some (iT b), none, B, m6, d7, some (.z (dT v)), d9, d10, d11, d12, d13, none, d15] = some (.ok (.t (.lst (vs.map iT))) [S, some (.lst (xs'.map iT)), some (iT n), some (iT b), none, B, m6, d7, some (.z (dT v)), d9, d10, d11, d12, d13, none, d15]) := by
    rw [sLcN_ap]
    simp only [List.getElem?_cons_succ, List.getElem?_cons_zero, T.els, T.elsL, T.elsK, T.elsT, wipeE, List.set_cons_succ, List.set_cons_zero]
    rw [h1]
  rw [sO_ap, sCons_ap, e1]
  simp
theorem up7 (m6 : Option T) (A B : List (List Int)) (hA : ∀ m ∈ A, Lim n m) (hn : n < 100) (hB : ∀ m ∈ B, Lim n m) (hl : A.length ≤ 5) (hlB : B.length ≤ 5) (xs : List Int) : ∃ (B' : List (List Int)) (xs' : List Int), B'.length ≤ 5 ∧ (∀ m ∈ B', Lim n m) ∧
  (sIfS (sTb (sO (oS gEq) (sCons true (sCallT 2 [true] FTake (sCons true (sVar 1) (sCons true (sC (.int 3)) sNil))) (sCons true (sC (.int 0)) sNil))))
    (sSet 5 (sLcN [8] 4 (gmName 8) sYes (sO oTupOf (sCons true (sLcN [14] 8 (gmName 14) sYes gUpE) sNil))))
    sNext) [S, some (.lst (xs.map iT)), some (iT n), some (iT b), some (TL A), some (TL B), m6, d7, none, d9, d10, d11, d12, d13, none, d15] = some (.nx [S, some (.lst (xs'.map iT)), some (iT n), some (iT b), some (TL A), some (TL B'), m6, d7, none, d9, d10, d11, d12, d13, none, d15]) := by
  have h := hTake xs 3 (by decide)
  have e0 : ∀ j : Int, (dtake xs 3).1 = j → (sTb (sO (oS gEq) (sCons true (sCallT 2 [true] FTake (sCons true (sVar 1) (sCons true (sC (.int 3)) sNil))) (sCons true (sC (.int 0)) sNil)))) [S, some (.lst (xs.map iT)), some (iT n), some (iT b), some (TL A), some (TL B), m6, d7, none, d9, d10, d11, d12, d13, none, d15] = some (.ok (decide (j = 0)) [S, some (.lst ((dtake xs 3).2.map iT)), some (iT n), some (iT b), some (TL A), some (TL B), m6, d7, none, d9, d10, d11, d12, d13, none, d15]) := by
    rintro j rfl
    simp [h]
  by_cases h2 : (dtake xs 3).1 = 0
  · obtain ⟨ts, e, h1, vs, xs', rfl, rfl, h2', h3⟩ := compF_inv (own := [8]) (s := gmName 8) (fc := sYes) (fe := (sO oTupOf (sCons true (sLcN [14] 8 (gmName 14) sYes gUpE) sNil)))
      (fun p acc env => ∃ (vs : List (List Int)) (xs' : List Int), acc = vs.map (fun v => T.z (dT v)) ∧ env = [S, some (.lst (xs'.map iT)), some (iT n), some (iT b), none, some (TL B), m6, d7, none, d9, d10, d11, d12, d13, none, d15] ∧ vs.length = p.length ∧ ∀ m ∈ vs, Lim n m) (ds := A.map dT) (env := [S, some (.lst ((dtake xs 3).2.map iT)), some (iT n), some (iT b), none, some (TL B), m6, d7, none, d9, d10, d11, d12, d13, none, d15]) (by rw [List.length_map]; omega) ⟨[], _, rfl, rfl, rfl, fun _ h => nomatch h⟩ fun p d q acc env hx _ i => by
        obtain ⟨vs, xs', rfl, rfl, hl, hd⟩ := i
        have hm : d ∈ A.map dT := by rw [hx]; simp
        obtain ⟨v, hv, rfl⟩ := List.mem_map.mp hm
        obtain ⟨v', ys, g1, g3⟩ := up7c S d7 d9 d10 d11 d12 d13 d15 n b (some (TL B)) m6 v (hA v hv) (by omega) xs'
        refine ⟨[S, some (.lst (xs'.map iT)), some (iT n), some (iT b), none, some (TL B), m6, d7, some (.z (dT v)), d9, d10, d11, d12, d13, none, d15], rfl, .inl ⟨_, _, _, .z (dT v'), _, rfl, g3, rfl, vs ++ [v'], ys, by simp, rfl, by simp [hl], ?_⟩⟩
        intro y hy
        rcases List.mem_append.mp hy with z | z
        · exact hd y z
        · rw [List.mem_singleton.mp z]; exact g1
    refine ⟨vs, xs', by rw [h2', List.length_map]; exact hl, h3, ?_⟩
    rw [sIfS_ap, e0 0 h2]
    simp only [decide_true, if_true]
    have e1 : (sLcN [8] 4 (gmName 8) sYes (sO oTupOf (sCons true (sLcN [14] 8 (gmName 14) sYes gUpE) sNil))) [S, some (.lst ((dtake xs 3).2.map iT)), some (iT n), some (iT b), some (TL A), some (TL B), m6, d7, none, d9, d10, d11, d12, d13, none, d15] = some (.ok (.t (TL vs)) [S, some (.lst (xs'.map iT)), some (iT n), some (iT b), some (TL A), some (TL B), m6, d7, none, d9, d10, d11, d12, d13, none, d15]) := by
      rw [sLcN_ap]
      simp only [List.getElem?_cons_succ, List.getElem?_cons_zero, T.els, T.elsL, zs_mapz, wipeE, List.set_cons_succ, List.set_cons_zero]
      rw [h1]
      rfl
    rw [sSet_ap, e1]
    rfl
  · refine ⟨B, (dtake xs 3).2, hlB, hB, ?_⟩
    rw [sIfS_ap, e0 _ rfl]
    simp [h2]
theorem up8 (A B d8 : Option T) (hn : n < 100) (xs : List Int) : ∃ (x xs' : List Int), x.length = n ∧
    (sSet 6 (sO oTupOf (sCons true (sLc [14] (sCallT 3 [true] FMark (sCons true (sVar 1) (sCons true (sVar 2) (sCons true (sC (.int 4)) sNil)))) (gmName 14) sYes (sO oAdd (sCons true (sVar 3) (sCons true (sVar 14) sNil)))) sNil))) [S, some (.lst (xs.map iT)), some (iT n), some (iT b), A, B, none, d7, d8, d9, d10, d11, d12, d13, none, d15] =
      some (.nx [S, some (.lst (xs'.map iT)), some (iT n), some (iT b), A, B, some (.z (dT x)), d7, d8, d9, d10, d11, d12, d13, none, d15]) := by
  obtain ⟨v, xs', h2, hl, hg⟩ := hMark n 4 (by decide) (by omega) xs
  refine ⟨v.map (b + ·), xs', by rw [List.length_map]; exact hl, ?_⟩
  have h := compF_map (own := [14]) (s := gmName 14) (fe := sO oAdd (sCons true (sVar 3) (sCons true (sVar 14) sNil))) D.int (fun x => iT (b + x)) (env := [S, some (.lst (xs'.map iT)), some (iT n), some (iT b), A, B, none, d7, d8, d9, d10, d11, d12, d13, none, d15]) v (by omega) fun x _ => ⟨[S, some (.lst (xs'.map iT)), some (iT n), some (iT b), A, B, none, d7, d8, d9, d10, d11, d12, d13, some (iT x), d15], .t (iT (b + x)), [S, some (.lst (xs'.map iT)), some (iT n), some (iT b), A, B, none, d7, d8, d9, d10, d11, d12, d13, some (iT x), d15], [S, some (.lst (xs'.map iT)), some (iT n), some (iT b), A, B, none, d7, d8, d9, d10, d11, d12, d13, some (iT x), d15], rfl, rfl, rfl, rfl⟩
  simp [h, h2]
end
section
variable (S d1 b A B m6 f7 d8 d10 d12 d13 d14 : Option T)
theorem gLes_comp (n : Nat) (hn : n < 10000) (u v : List Int) (hu : u.length = n) (hv : v.length = n) :
    (sO oTupOf (sCons true (sLcR [15] gRng1 (sCons true (sVar 2) sNil) (gmName 15) sYes (sCallL 2 FLesL (sCons true (sO oIx (sCons true (sVar 9) (sCons true (sVar 15) sNil))) (sCons true (sO oIx (sCons true (sVar 11) (sCons true (sVar 15) sNil))) sNil)))) sNil)) [S, d1, some (iT n), b, A, B, m6, f7, d8, some (.z (dT u)), d10, some (.z (dT v)), d12, d13, d14, none] =
      some (.ok (.t (.z (dT (lmeet u v)))) [S, d1, some (iT n), b, A, B, m6, f7, d8, some (.z (dT u)), d10, some (.z (dT v)), d12, d13, d14, none]) := by
  have e := compF_map (own := [15]) (s := gmName 15) (fe := (sCallL 2 FLesL (sCons true (sO oIx (sCons true (sVar 9) (sCons true (sVar 15) sNil))) (sCons true (sO oIx (sCons true (sVar 11) (sCons true (sVar 15) sNil))) sNil)))) (fun k : Nat => D.int (0 + (k : Int))) (fun k : Nat => iT (lesI (u.getD k 0) (v.getD k 0))) (env := [S, d1, some (iT n), b, A, B, m6, f7, d8, some (.z (dT u)), d10, some (.z (dT v)), d12, d13, d14, none]) (List.range n) (by simpa using hn) fun k hk => by
    have hk := List.mem_range.mp hk
    have h1 : k < u.length := by omega
    have h2 : k < v.length := by omega
    have hF : FLesL [iT u[k], iT v[k]] = _ := lesL_ev u[k] v[k]
    have g1 : u.getD k 0 = u[k] := by simp [h1]
    have g2 : v.getD k 0 = v[k] := by simp [h2]
    refine ⟨[S, d1, some (iT n), b, A, B, m6, f7, d8, some (.z (dT u)), d10, some (.z (dT v)), d12, d13, d14, some (iT k)], .t (iT (lesI (u.getD k 0) (v.getD k 0))), [S, d1, some (iT n), b, A, B, m6, f7, d8, some (.z (dT u)), d10, some (.z (dT v)), d12, d13, d14, some (iT k)], _, ?_, ?_, rfl, rfl⟩
    · rw [Int.zero_add]
      rfl
    · rw [g1, g2]
      simp [h1, h2, hF]
  rw [← rngD_map] at e
  have hg := gRng1_ev n (by omega)
  have ej : (List.range n).map (fun k : Nat => iT (lesI (u.getD k 0) (v.getD k 0))) = (lmeet u v).map iT := by
    unfold lmeet
    rw [hu, List.map_map]
    rfl
  rw [ej] at e
  simp [-gRng1, hg, e]
end
section
variable (S d1 n2 b3 d4 d5 m6 f7 d9 d11 d12 d13 d14 d15 : Option T) (n : Nat) (A B : List (List Int))
theorem s15c (hn : n < 100) (hA : ∀ a ∈ A, a.length = n) (hB : ∀ b ∈ B, b.length = n) (hl : A.length < 10000) :
    compF [8] (gmName 8) (sNot (sTr (sCallL 2 FHeld (sCons true (sO oIx (sCons true (sVar 10) (sCons true (sC (.int 1)) sNil))) (sCons true (sVar 8) sNil))))) (sVar 8) (A.map dT) [S, d1, n2, b3, d4, d5, m6, f7, none, d9, some (.z (.tup [LT A, LT B])), d11, d12, d13, d14, d15] [] =
      some ((A.filter fun a => !heldS B a).map (fun v => .z (dT v)), [S, d1, n2, b3, d4, d5, m6, f7, none, d9, some (.z (.tup [LT A, LT B])), d11, d12, d13, d14, d15]) := by
  generalize hE : D.tup [LT A, LT B] = E
  have go : ∀ (A' : List (List Int)) (acc : List T), acc.length + A'.length < 10000 → (∀ a ∈ A', a.length = n) → compF [8] (gmName 8) (sNot (sTr (sCallL 2 FHeld (sCons true (sO oIx (sCons true (sVar 10) (sCons true (sC (.int 1)) sNil))) (sCons true (sVar 8) sNil))))) (sVar 8) (A'.map dT) [S, d1, n2, b3, d4, d5, m6, f7, none, d9, some (.z E), d11, d12, d13, d14, d15] acc =
      some (acc ++ (A'.filter fun a => !heldS B a).map (fun v => .z (dT v)), [S, d1, n2, b3, d4, d5, m6, f7, none, d9, some (.z E), d11, d12, d13, d14, d15]) := by
    intro A'
    induction A' with
    | nil => intro acc _ _; simp [compF]
    | cons a A' ih =>
      intro acc hs hl
      have hlen : acc.length < sizeLine := by
        have := sizeLine_val
        simp at hs
        omega
      have ha := hl a List.mem_cons_self
      have c1 : FHeld _ = _ := held_ev B a (n := n) (by omega) hB ha
      have hc : (sNot (sTr (sCallL 2 FHeld (sCons true (sO oIx (sCons true (sVar 10) (sCons true (sC (.int 1)) sNil))) (sCons true (sVar 8) sNil))))) [S, d1, n2, b3, d4, d5, m6, f7, some (.z (dT a)), d9, some (.z E), d11, d12, d13, d14, d15] = some (.ok (!heldS B a) [S, d1, n2, b3, d4, d5, m6, f7, some (.z (dT a)), d9, some (.z E), d11, d12, d13, d14, d15]) := by
        have hi : atI [LT A, LT B] 1 = some (LT B) := rfl
        subst hE
        simp [c1, hi]
      have hg : gmName 8 (.z (dT a)) [S, d1, n2, b3, d4, d5, m6, f7, none, d9, some (.z E), d11, d12, d13, d14, d15] = some [S, d1, n2, b3, d4, d5, m6, f7, some (.z (dT a)), d9, some (.z E), d11, d12, d13, d14, d15] := rfl
      rw [List.map_cons]
      unfold compF
      simp only [hg, hc]
      cases hq : heldS B a
      · have := ih (acc ++ [.z (dT a)]) (by simp at hs ⊢; omega) fun z hz => hl z (List.mem_cons_of_mem _ hz)
        have hv : sVar 8 [S, d1, n2, b3, d4, d5, m6, f7, some (.z (dT a)), d9, some (.z E), d11, d12, d13, d14, d15] = some (.ok (.t (.z (dT a))) [S, d1, n2, b3, d4, d5, m6, f7, some (.z (dT a)), d9, some (.z E), d11, d12, d13, d14, d15]) := rfl
        simp only [List.filter_cons, hq, hv, Opd.take, if_pos hlen, Bool.not_false]
        refine Eq.trans this ?_
        simp
      · have := ih acc (by simp at hs; omega) fun z hz => hl z (List.mem_cons_of_mem _ hz)
        simp only [List.filter_cons, hq, Bool.not_true]
        exact this
  simpa using go A [] (by simpa using hl) hA
theorem s15 (hn : n < 100) (hA : ∀ a ∈ A, Lim n a) (hB : ∀ b ∈ B, Lim n b) (hl : A.length < 10000) (o8 : Option T) : ∃ o12' o13',
    (sSeq (sSet 12 (sO (oS gEq) (sCons true (sO (oS gLen) (sCons true (sLc [8] (sO oIx (sCons true (sVar 10) (sCons true (sC (.int 0)) sNil))) (gmName 8) (sNot (sTr (sCallL 2 FHeld (sCons true (sO oIx (sCons true (sVar 10) (sCons true (sC (.int 1)) sNil))) (sCons true (sVar 8) sNil))))) (sVar 8)) sNil)) (sCons true (sC (.int 0)) sNil))))
    (sSeq (sSet 13 (sCallL 2 FFw (sCons true (sO oListOf (sCons true (sO oIx (sCons true (sVar 10) (sCons true (sC (.int 0)) sNil))) sNil)) (sCons true (sO oListOf (sCons true (sO oIx (sCons true (sVar 10) (sCons true (sC (.int 1)) sNil))) sNil)) sNil))))
    (sIfS (sOr (sNot (sTr (sO (oS (gIsi "bool")) (sCons true (sVar 13) sNil)))) (sTb (sO (oS gNe) (sCons true (sVar 13) (sCons true (sVar 12) sNil)))))
      (sRet (sC (.bl false)))
      sNext))) [S, d1, n2, b3, d4, d5, m6, f7, o8, d9, some (.z (.tup [LT A, LT B])), d11, d12, d13, d14, d15] = some (.nx [S, d1, n2, b3, d4, d5, m6, f7, none, d9, some (.z (.tup [LT A, LT B])), d11, o12', o13', d14, d15]) := by
  have hi0 : atI [LT A, LT B] 0 = some (LT A) := rfl
  have hi1 : atI [LT A, LT B] 1 = some (LT B) := rfl
  have hc := s15c S d1 n2 b3 d4 d5 m6 f7 d9 d11 d12 d13 d14 d15 n A B hn (fun a ha => (hA a ha).1) (fun a ha => (hB a ha).1) hl
  have hW : FFw _ = _ := fw_ev A B n (by omega) hA hB
  have he : ((A.filter fun a => !heldS B a).length = 0) ↔ (A.all fun a => heldS B a) = true := by
    rw [List.length_eq_zero_iff, List.filter_eq_nil_iff, List.all_eq_true]
    simp
  obtain ⟨q, hq⟩ : ∃ q, (A.all fun a => heldS B a) = q := ⟨_, rfl⟩
  rw [hq] at he hW
  have hz : decide (((A.filter fun a => !heldS B a).length : Int) = 0) = q := by
    rw [Bool.eq_iff_iff, decide_eq_true_eq, ← he]
    omega
  refine ⟨some (bT q), some (bT q), ?_⟩
  have e1 : (sLc [8] (sO oIx (sCons true (sVar 10) (sCons true (sC (.int 0)) sNil))) (gmName 8) (sNot (sTr (sCallL 2 FHeld (sCons true (sO oIx (sCons true (sVar 10) (sCons true (sC (.int 1)) sNil))) (sCons true (sVar 8) sNil))))) (sVar 8)) [S, d1, n2, b3, d4, d5, m6, f7, o8, d9, some (.z (.tup [LT A, LT B])), d11, d12, d13, d14, d15] = some (.ok (.t (TL (A.filter fun a => !heldS B a))) [S, d1, n2, b3, d4, d5, m6, f7, none, d9, some (.z (.tup [LT A, LT B])), d11, d12, d13, d14, d15]) := by
    rw [sLc_ap]
    have e0 : (sO oIx (sCons true (sVar 10) (sCons true (sC (.int 0)) sNil))) [S, d1, n2, b3, d4, d5, m6, f7, o8, d9, some (.z (.tup [LT A, LT B])), d11, d12, d13, d14, d15] = some (.ok (.t (.z (LT A))) [S, d1, n2, b3, d4, d5, m6, f7, o8, d9, some (.z (.tup [LT A, LT B])), d11, d12, d13, d14, d15]) := by simp [hi0]
    rw [e0]
    simp only [T.els, T.elsL, wipeE, List.set_cons_succ, List.set_cons_zero]
    rw [hc]
  have e2 : (sSet 12 (sO (oS gEq) (sCons true (sO (oS gLen) (sCons true (sLc [8] (sO oIx (sCons true (sVar 10) (sCons true (sC (.int 0)) sNil))) (gmName 8) (sNot (sTr (sCallL 2 FHeld (sCons true (sO oIx (sCons true (sVar 10) (sCons true (sC (.int 1)) sNil))) (sCons true (sVar 8) sNil))))) (sVar 8)) sNil)) (sCons true (sC (.int 0)) sNil)))) [S, d1, n2, b3, d4, d5, m6, f7, o8, d9, some (.z (.tup [LT A, LT B])), d11, d12, d13, d14, d15] = some (.nx [S, d1, n2, b3, d4, d5, m6, f7, none, d9, some (.z (.tup [LT A, LT B])), d11, some (bT q), d13, d14, d15]) := by
    have : (sO (oS gEq) (sCons true (sO (oS gLen) (sCons true (sLc [8] (sO oIx (sCons true (sVar 10) (sCons true (sC (.int 0)) sNil))) (gmName 8) (sNot (sTr (sCallL 2 FHeld (sCons true (sO oIx (sCons true (sVar 10) (sCons true (sC (.int 1)) sNil))) (sCons true (sVar 8) sNil))))) (sVar 8)) sNil)) (sCons true (sC (.int 0)) sNil))) [S, d1, n2, b3, d4, d5, m6, f7, o8, d9, some (.z (.tup [LT A, LT B])), d11, d12, d13, d14, d15] = some (.ok (.t (bT q)) [S, d1, n2, b3, d4, d5, m6, f7, none, d9, some (.z (.tup [LT A, LT B])), d11, d12, d13, d14, d15]) := by
      rw [← hz, sO_ap, sCons_ap, sO_ap, sCons_ap, e1]
      simp [List.length_eq_zero_iff]
    rw [sSet_ap, this]
    rfl
  rw [sSeq_nx e2]
  rw [sSeq_nx (e := [S, d1, n2, b3, d4, d5, m6, f7, none, d9, some (.z (.tup [LT A, LT B])), d11, some (bT q), some (bT q), d14, d15]) (by simp [hi0, hi1, hW])]
  simp
end
end DL.k03

namespace DL.k03
open PySem PySem.Spec PyProof.Rows L2 DL
theorem gUpE_eq : gUpE = (sO oAdd (sCons false (sVar 14) (sCons true (sO oMul (sCons false (sO (oS gInt) (sCons true (sO oGe (sCons true (sVar 14) (sCons true (sC (.int 0)) sNil))) sNil)) (sCons true (sCallT 2 [true] FTake (sCons true (sVar 1) (sCons true (sC (.int 2)) sNil))) sNil))) sNil))) := rfl
theorem second_half (ns : List Int) : F_zlaw_second_half [.z (.kls (ns.map D.int))] = some (.rt (bT true) []) := by
  have key : ∃ e, g_zlaw_second_half [some (.z (.kls (ns.map D.int))), none, none, none, none, none, none, none, none, none, none, none, none, none, none, none] = some (.rt (bT true) e) := by
    unfold g_zlaw_second_half
    rw [x1, x2, x3, x4, x6, x7, x9, x10, x12, x17, x18, x19, x20, ← gUpE_eq]
    obtain ⟨xs, e1⟩ := open1 ns [none, none, none, none, none, none, none, none, none, none, none, none, none, none] 300 300 rfl (by decide)
    rw [sSeq_nx e1]
    obtain ⟨n, xs2, hn0, hn, e2⟩ := open2 [none, none, none, none, none, none, none, none, none, none, none, none, none] (some (.z (.kls (ns.map D.int)))) none xs
    rw [sSeq_nx e2, sSeq_nx (e := [some (.z (.kls (ns.map D.int))), some (.lst (xs2.map iT)), some (iT n), some (iT 0), none, none, none, none, none, none, none, none, none, none, none, none]) rfl]
    obtain ⟨b, xs3, hb, e4⟩ := open4 ns [none, none, none, none, none, none, none, none, none, none, none, none] (some (iT n)) xs2
    rw [sSeq_nx e4]
    generalize some (T.z (.kls (ns.map D.int))) = S
    obtain ⟨A, xs4, hlA, hA, e5⟩ := lh5 6 (by decide) (by decide) S [none, none, none, none, none, none, none, none, none, none, none, none] n hn b hb xs3
    rw [sSeq_nx (e := [S, some (.lst (xs4.map iT)), some (iT n), some (iT b), some (TL A), none, none, none, none, none, none, none, none, none, none, none]) (by rw [sSet_ap, e5]; rfl)]
    obtain ⟨B0, xs5, hlB0, hB0, e6⟩ := lh5 6 (by decide) (by decide) S [some (TL A), none, none, none, none, none, none, none, none, none, none, none] n hn b hb xs4
    rw [sSeq_nx (e := [S, some (.lst (xs5.map iT)), some (iT n), some (iT b), some (TL A), some (TL B0), none, none, none, none, none, none, none, none, none, none]) (by rw [sSet_ap, e6]; rfl)]
    obtain ⟨B, xs6, hlB, hB, e7⟩ := up7 S none none none none none none none n b none A B0 hA hn hB0 (by omega) (by omega) xs5
    rw [sSeq_nx e7]
    obtain ⟨x, xs7, hx, e8⟩ := up8 S none none none none none none none n b (some (TL A)) (some (TL B)) none hn xs6
    rw [sSeq_nx e8]
    have hlenA : ∀ m ∈ A, m.length = n := fun m hm => (hA m hm).1
    have hlenB : ∀ m ∈ B, m.length = n := fun m hm => (hB m hm).1
    have hjL : ∀ m ∈ meets A B, Lim n m := fun m hm => by
      obtain ⟨a, ha, b', hb', rfl⟩ := mem_meets.mp hm
      exact lim_meet (hA a ha) (hB b' hb')
    have hAB : A.length * B.length < 64 := Nat.lt_of_le_of_lt (Nat.mul_le_mul (show A.length ≤ 5 by omega) hlB) (by decide)
    have hjs : (meets A B).length < 64 := by rw [meets_len]; exact hAB
    obtain ⟨L, hL⟩ : ∃ L, topL winL (meets A B) = L := ⟨_, rfl⟩
    have hM : FFM _ = _ := frameMeet_ev A B n (by omega) hn0 hA hB hAB
    rw [hL] at hM
    have hLj : ∀ m ∈ L, m ∈ meets A B := fun m hm => top_sub (by rw [hL]; exact hm)
    have hLL : ∀ m ∈ L, Lim n m := fun m hm => hjL m (hLj m hm)
    have hLl : ∀ m ∈ L, m.length = n := fun m hm => (hLL m hm).1
    have hLen : L.length < 64 := by
      rw [← hL]
      exact Nat.lt_of_le_of_lt (Nat.le_trans (List.length_filter_le _ _) (sortU_len _)) hjs
    have hcl := cl_dT L
    have hAll' : FAll _ = _ := all_ev L n (-1) fun m hm => hLL m hm
    have hLe : FGr _ = _ := great_ev L n (by omega) hn0 hLl hLen
    rw [show topL winL L = L by rw [← hL]; exact top_top _] at hLe
    have above : ∀ m ∈ meets A B, ∃ f ∈ L, winL m f = true := by
      rw [← hL]
      exact top_above (fun m _ => win_refl m) (fun a ha b' hb' c hc => win_trans (hjL a ha).1 (hjL b' hb').1) (fun a ha b' hb' => win_anti (hjL a ha) (hjL b' hb'))
    have hIA : FInL _ = _ := inL_ev A x (n := n) (by omega) hlenA hx
    have hIB : FInL _ = _ := inL_ev B x (n := n) (by omega) hlenB hx
    have hIL : FInL _ = _ := inL_ev L x (n := n) (by omega) hLl hx
    have hadm : admS L x = (admS A x && admS B x) := by
      unfold admS
      rw [Bool.eq_iff_iff, Bool.and_eq_true, List.any_eq_true, List.any_eq_true, List.any_eq_true]
      constructor
      · rintro ⟨m, hm, hc⟩
        obtain ⟨a, ha, b', hb', rfl⟩ := mem_meets.mp (hLj m hm)
        rw [adm_meet (hlenA a ha) (hlenB b' hb'), Bool.and_eq_true] at hc
        exact ⟨⟨a, ha, hc.1⟩, ⟨b', hb', hc.2⟩⟩
      · rintro ⟨⟨a, ha, h1⟩, ⟨b', hb', h2⟩⟩
        have hm := mem_meets.mpr ⟨a, ha, b', hb', rfl⟩
        obtain ⟨f, hf, hw⟩ := above _ hm
        refine ⟨f, hf, adm_win (hjL _ hm).1 (hLl f hf) hw ?_⟩
        rw [adm_meet (hlenA a ha) (hlenB b' hb'), h1, h2]
        rfl
    rw [hadm] at hIL
    rw [sSeq_nx (e := [S, some (.lst (xs7.map iT)), some (iT n), some (iT b), some (TL A), some (TL B), some (.z (dT x)), some (TL L), none, none, none, none, none, none, none, none]) (by simp [hM, hcl])]
    rw [sSeq_nx (e := [S, some (.lst (xs7.map iT)), some (iT n), some (iT b), some (TL A), some (TL B), some (.z (dT x)), some (TL L), none, none, none, none, none, none, none, none]) (by simp [hAll', hLe, hcl])]
    rw [sSeq_nx (e := [S, some (.lst (xs7.map iT)), some (iT n), some (iT b), some (TL A), some (TL B), some (.z (dT x)), some (TL L), none, none, none, none, none, none, none, none]) (by cases hc : admS A x <;> rw [hc] at hIL <;> simp [hIA, hIB, hIL, hc])]
    generalize some (T.lst (xs7.map iT)) = d1
    generalize some (T.z (dT x)) = m6
    obtain ⟨e, h1, o8, rfl⟩ := forF_all (s := gmName 8) (g := (sIfS (sOr (sNot (sTr (sCallL 2 FHeld (sCons true (sVar 4) (sCons true (sVar 8) sNil))))) (sNot (sTr (sCallL 2 FHeld (sCons true (sVar 5) (sCons true (sVar 8) sNil))))))
      (sRet (sC (.bl false)))
      sNext)) (ds := L.map dT) (fun e => ∃ o8, e = [S, d1, some (iT n), some (iT b), some (TL A), some (TL B), m6, none, o8, none, none, none, none, none, none, none])
      (env := [S, d1, some (iT n), some (iT b), some (TL A), some (TL B), m6, none, none, none, none, none, none, none, none, none]) ⟨none, rfl⟩ fun d hd env i => by
        obtain ⟨o8, rfl⟩ := i
        obtain ⟨m, hm, rfl⟩ := List.mem_map.mp hd
        have hml := hLl m hm
        have c1 : FHeld _ = _ := held_ev A m (n := n) (by omega) hlenA hml
        have c2 : FHeld _ = _ := held_ev B m (n := n) (by omega) hlenB hml
        obtain ⟨a, ha, b', hb', hmm⟩ := mem_meets.mp (hLj m hm)
        have k1 : heldS A m = true := List.any_eq_true.mpr ⟨a, ha, by rw [hmm]; exact win_meet1 (hA a ha) (hB b' hb')⟩
        have k2 : heldS B m = true := List.any_eq_true.mpr ⟨b', hb', by rw [hmm]; exact win_meet2 (hA a ha) (hB b' hb')⟩
        rw [k1] at c1
        rw [k2] at c2
        exact ⟨_, [S, d1, some (iT n), some (iT b), some (TL A), some (TL B), m6, none, some (.z (dT m)), none, none, none, none, none, none, none], rfl, .inl (by simp [c1, c2]), some (.z (dT m)), rfl⟩
    rw [sSeq_nx (e := [S, d1, some (iT n), some (iT b), some (TL A), some (TL B), m6, some (TL L), o8, none, none, none, none, none, none, none]) (by
      rw [sForN_ap]
      simp only [List.getElem?_cons_succ, List.getElem?_cons_zero, T.els, T.elsL, zs_mapz]
      exact (congrArg (back 7 _) h1).trans rfl)]
    obtain ⟨e, h2, o9, o11, rfl⟩ := forF_all (s := gmName 9) (g := (sForN 5 (gmName 11)
      (sIfS (sNot (sTr (sCallL 2 FHeld (sCons false (sVar 7) (sCons true (sO oTupOf (sCons true (sLcR [15] gRng1 (sCons true (sVar 2) sNil) (gmName 15) sYes (sCallL 2 FLesL (sCons true (sO oIx (sCons true (sVar 9) (sCons true (sVar 15) sNil))) (sCons true (sO oIx (sCons true (sVar 11) (sCons true (sVar 15) sNil))) sNil)))) sNil)) sNil)))))
        (sRet (sC (.bl false)))
        sNext))) (ds := A.map dT) (fun e => ∃ o9 o11, e = [S, d1, some (iT n), some (iT b), none, some (TL B), m6, some (TL L), o8, o9, none, o11, none, none, none, none])
      (env := [S, d1, some (iT n), some (iT b), none, some (TL B), m6, some (TL L), o8, none, none, none, none, none, none, none]) ⟨none, none, rfl⟩ fun d hd env i => by
        obtain ⟨o9, o11, rfl⟩ := i
        obtain ⟨u, hu, rfl⟩ := List.mem_map.mp hd
        obtain ⟨e, h3, o11', rfl⟩ := forF_all (s := gmName 11) (g := (sIfS (sNot (sTr (sCallL 2 FHeld (sCons false (sVar 7) (sCons true (sO oTupOf (sCons true (sLcR [15] gRng1 (sCons true (sVar 2) sNil) (gmName 15) sYes (sCallL 2 FLesL (sCons true (sO oIx (sCons true (sVar 9) (sCons true (sVar 15) sNil))) (sCons true (sO oIx (sCons true (sVar 11) (sCons true (sVar 15) sNil))) sNil)))) sNil)) sNil)))))
          (sRet (sC (.bl false)))
          sNext)) (ds := B.map dT) (fun e => ∃ o11, e = [S, d1, some (iT n), some (iT b), none, none, m6, some (TL L), o8, some (.z (dT u)), none, o11, none, none, none, none])
          (env := [S, d1, some (iT n), some (iT b), none, none, m6, some (TL L), o8, some (.z (dT u)), none, o11, none, none, none, none]) ⟨o11, rfl⟩ fun d hd env i => by
            obtain ⟨o11, rfl⟩ := i
            obtain ⟨v, hv, rfl⟩ := List.mem_map.mp hd
            have hm := mem_meets.mpr ⟨u, hu, v, hv, rfl⟩
            have hj := (hjL _ hm).1
            have c1 : FHeld _ = _ := held_ev L (lmeet u v) (n := n) (by omega) hLl hj
            have hi : heldS L (lmeet u v) = true := by
              obtain ⟨f, hf, hw⟩ := above _ hm
              exact List.any_eq_true.mpr ⟨f, hf, hw⟩
            rw [hi] at c1
            have e0 := gLes_comp S d1 (some (iT b)) none none m6 (some (TL L)) o8 none none none none n (by omega) u v (hlenA u hu) (hlenB v hv)
            refine ⟨_, [S, d1, some (iT n), some (iT b), none, none, m6, some (TL L), o8, some (.z (dT u)), none, some (.z (dT v)), none, none, none, none], rfl, .inl ?_, some (.z (dT v)), rfl⟩
            simp [-sO_ap, e0, c1]
        refine ⟨_, [S, d1, some (iT n), some (iT b), none, some (TL B), m6, some (TL L), o8, some (.z (dT u)), none, o11', none, none, none, none], rfl, .inl ?_, some (.z (dT u)), o11', rfl⟩
        rw [sForN_ap]
        simp only [List.getElem?_cons_succ, List.getElem?_cons_zero, T.els, T.elsL, zs_mapz, List.set_cons_succ, List.set_cons_zero]
        exact (congrArg (back 5 _) h3).trans rfl
    rw [sSeq_nx (e := [S, d1, some (iT n), some (iT b), some (TL A), some (TL B), m6, some (TL L), o8, o9, none, o11, none, none, none, none]) (by
      rw [sForN_ap]
      simp only [List.getElem?_cons_succ, List.getElem?_cons_zero, T.els, T.elsL, zs_mapz]
      exact (congrArg (back 4 _) h2).trans rfl)]
    have s2 : 2 ≤ sizeLine := Nat.le_trans (by decide : 2 ≤ 10000) (Nat.le_of_lt sizeLine_val)
    have e9 : (sTake hTup (sCons false (sTake hTup (sCons true (sVar 4) (sCons true (sVar 5) sNil))) (sCons true (sTake hTup (sCons true (sVar 5) (sCons true (sVar 4) sNil))) sNil))) [S, d1, some (iT n), some (iT b), some (TL A), some (TL B), m6, some (TL L), o8, o9, none, o11, none, none, none, none] = some (.ok (.t (.z (.tup [.tup [LT A, LT B], .tup [LT B, LT A]]))) [S, d1, some (iT n), some (iT b), some (.z (LT A)), some (.z (LT B)), m6, some (TL L), o8, o9, none, o11, none, none, none, none]) := by
      simp [s2]
    obtain ⟨e, h3, o8', p10, o12, o13, rfl⟩ := forF_all (s := gmName 10) (g := _) (ds := [.tup [LT A, LT B], .tup [LT B, LT A]]) (fun e => ∃ o8 p10 o12 o13, e = [S, d1, some (iT n), some (iT b), some (.z (LT A)), some (.z (LT B)), m6, some (TL L), o8, o9, p10, o11, o12, o13, none, none])
      (env := [S, d1, some (iT n), some (iT b), some (.z (LT A)), some (.z (LT B)), m6, some (TL L), o8, o9, none, o11, none, none, none, none]) ⟨o8, none, none, none, rfl⟩ fun d hd env i => by
        obtain ⟨o8, p10, o12, o13, rfl⟩ := i
        rcases List.mem_cons.mp hd with rfl | hd
        · obtain ⟨a, b', e⟩ := s15 S d1 (some (iT n)) (some (iT b)) (some (.z (LT A))) (some (.z (LT B))) m6 (some (TL L)) o9 o11 o12 o13 none none n A B hn hA hB (by omega) o8
          exact ⟨_, _, rfl, .inl e, none, some (.z (.tup [LT A, LT B])), a, b', rfl⟩
        · rw [List.mem_singleton.mp hd]
          obtain ⟨a, b', e⟩ := s15 S d1 (some (iT n)) (some (iT b)) (some (.z (LT A))) (some (.z (LT B))) m6 (some (TL L)) o9 o11 o12 o13 none none n B A hn hB hA (by omega) o8
          exact ⟨_, _, rfl, .inl e, none, some (.z (.tup [LT B, LT A])), a, b', rfl⟩
    refine ⟨[S, d1, some (iT n), some (iT b), some (.z (LT A)), some (.z (LT B)), m6, some (TL L), o8', o9, p10, o11, o12, o13, none, none], ?_⟩
    refine (sSeq_nx (e := [S, d1, some (iT n), some (iT b), some (.z (LT A)), some (.z (LT B)), m6, some (TL L), o8', o9, p10, o11, o12, o13, none, none]) ?_).trans rfl
    rw [sFor_ap, e9]
    exact h3
  obtain ⟨e, h⟩ := key
  exact fn_rt rfl h
theorem law_ok (ns : List Int) : F_law [.z (.kls (ns.map D.int))] = some (.rt (bT true) []) := by
  have h1 := first_half ns
  have h2 := second_half ns
  refine fn_rt (e := [some (.z (.kls (ns.map D.int)))]) rfl ?_
  unfold g_law
  simp [h1, h2]
end DL.k03

theorem PySem.Challenge.cw_netguild_k03_frame_meet_and_within_holds : PySem.Challenge.rw_netguild_k03_frame_meet_and_within.Holds :=
  DL.k03.holds_of fun ns _ => DL.k03.law_ok ns

