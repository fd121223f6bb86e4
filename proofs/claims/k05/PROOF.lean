import PyProof.Rows.All
import Wide.All
import OpenK.AllK
import Wide.FinOn
import HandS.ForMost
import HandS.Exc
import HandS.TryOnly
import HandS.ExcOwn
import HandS.TupAny
import HandS.TupMul
import HandS.IsInst
import HandS.Style
import HandS.Wide
import HandS.Dict
import HandS.Flow
import HandS.WordsExc
import HandS.Defaults
import HandS.TupSets
import KE.KSortTupG
import HandS.HeadHook1
import HandS.HeadHook2
import HandS.Head0
import HandS.Head1
import HandS.Head2
import HandS.HeadEnd
import HandS.SortInts
import HandS.Deep
import HandS.DeepEq
import HandS.TupLen
import HandS.Conv
import HandS.ExcInit
import HandS.ExcField
import HandS.HeadWalk
import KE.DataMinMax
import ObjForm.LawKit
import PySem.Challenge.RW_netguild_k05_complements
set_option Elab.async false
set_option linter.all false
set_option maxRecDepth 100000
/-! DL0: data, ownership, representation. -/
namespace DL
open PySem PySem.Spec PyProof.Rows L2

/-- plain data -/
inductive D where
  | non | bl (b : Bool) | int (i : Int) | str (x : Str) | ref (a : Addr) | ty (n : String)
  | tup (xs : List D) | lst (xs : List D) | kls (xs : List D) | dic (b : Bool) (ks vs : List D) | obj (C : Addr) (ns : List Str) (vs : List D) | exv (a dd C : Addr) (ns : List Str) (vs : List D)
/-- owned data: a tree of owned nodes, its leaves frozen data -/
inductive T where
  | z (d : D) | tup (ts : List T) | lst (ts : List T) | dic (b : Bool) (ks : List D) (ts : List T) | obj (C : Addr) (ns : List Str) (ts : List T)

mutual
@[simp] def D.imm : D → Bool
  | .tup xs => D.imms xs
  | .lst _ => false
  | .kls _ => false
  | .dic _ _ _ => false
  | .obj _ _ _ => false
  | .exv _ _ _ _ _ => false
  | .non => true
  | .bl _ => true
  | .int _ => true
  | .str _ => true
  | .ref _ => true
  | .ty _ => true
@[simp] def D.imms : List D → Bool
  | [] => true
  | x :: xs => x.imm && D.imms xs
end
mutual
@[simp] def T.er : T → D
  | .z d => d
  | .tup ts => .tup (T.ers ts)
  | .lst ts => .lst (T.ers ts)
  | .dic b ks ts => .dic b ks (T.ers ts)
  | .obj C ns ts => .obj C ns (T.ers ts)
@[simp] def T.ers : List T → List D
  | [] => []
  | t :: ts => t.er :: T.ers ts
end
mutual
/-- all frozen leaves are immutable data: nothing is shared -/
def T.clean : T → Bool
  | .z d => d.imm
  | .tup ts => T.cleans ts
  | .lst ts => T.cleans ts
  | .dic _ _ ts => T.cleans ts
  | .obj _ _ ts => T.cleans ts
@[simp] def T.cleans : List T → Bool
  | [] => true
  | t :: ts => t.clean && T.cleans ts
end
theorem ers_map (ts : List T) : T.ers ts = ts.map T.er := by
  induction ts with
  | nil => rfl
  | cons t ts ih => simp [T.ers, ih]
theorem imms_all (xs : List D) : D.imms xs = xs.all D.imm := by
  induction xs with
  | nil => rfl
  | cons t ts ih => simp [D.imms, ih]
theorem cleans_all (xs : List T) : T.cleans xs = xs.all T.clean := by
  induction xs with
  | nil => rfl
  | cons t ts ih => simp [T.cleans, ih]

def keyD : Key → D
  | .inl i => .int i
  | .inr x => .str x
/-- a dict's node: keys ints and texts (false), tuples of these (true) -/
def DicN : Bool → HO → List D → List V → Prop
  | false, o, ks, vs => ∃ kvs : List (Key × V), o = .dK kvs ∧ ks = kvs.map (fun p => keyD p.1) ∧ vs = kvs.map (·.2) ∧ (kvs.map (·.1)).Nodup
  | true, o, ks, vs => ∃ kvs : List (List Key × V), o = .dT kvs ∧ ks = kvs.map (fun p => .tup (p.1.map keyD)) ∧ vs = kvs.map (·.2) ∧ (kvs.map (·.1)).Nodup
theorem DicN.or : ∀ {b : Bool} {o : HO} {ks : List D} {vs : List V}, DicN b o ks vs → (∃ kvs : List (Key × V), o = .dK kvs ∧ vs = kvs.map (·.2)) ∨ ∃ kvs : List (List Key × V), o = .dT kvs ∧ vs = kvs.map (·.2)
  | false, _, _, _, h => by
    obtain ⟨kvs, h1, _, h2, _⟩ := h; exact .inl ⟨kvs, h1, h2⟩
  | true, _, _, _, h => by
    obtain ⟨kvs, h1, _, h2, _⟩ := h; exact .inr ⟨kvs, h1, h2⟩
theorem DicN.mu : ∀ {b : Bool} {o : HO} {ks : List D} {vs : List V}, DicN b o ks vs → Mut (some o)
  | false, _, _, _, h => by
    obtain ⟨_, rfl, _⟩ := h; trivial
  | true, _, _, _, h => by
    obtain ⟨_, rfl, _⟩ := h; trivial
section
variable (K : PySem.W.Frag)
mutual
/-- frozen data: lists, dicts, objects stand in Z, tuples in H -/
inductive Rep (Z H : Hp) : D → V → Prop
  | non : Rep Z H .non .non
  | bl {b} : Rep Z H (.bl b) (.bl b)
  | int {i} : Rep Z H (.int i) (.int i)
  | str {x} : Rep Z H (.str x) (.str x)
  | ref {a} : Rep Z H (.ref a) (.ref a)
  | ty {n} : Rep Z H (.ty n) (.ty n)
  | tup {a vs ds} : H a = some (.tup vs) → Reps Z H ds vs → Rep Z H (.tup ds) (.ref a)
  | lst {a vs ds} : Z a = some (.lst vs) → Reps Z H ds vs → Rep Z H (.lst ds) (.ref a)
  | kls {a vs ds} : SqL K Z a vs → Reps Z H ds vs → Rep Z H (.kls ds) (.ref a)
  | dic {a o b ks vs ds} : Z a = some o → DicN b o ks vs → Reps Z H ds vs → Rep Z H (.dic b ks ds) (.ref a)
  | obj {a C dx fs ns ds} : Z a = some (.ins C dx fs) → fs.map (·.1) = ns → Reps Z H ds (fs.map (·.2)) → Rep Z H (.obj C ns ds) (.ref a)
  | exv {a dd C fs ns ds} : Z dd = some (.xd fs) → fs.map (·.1) = ns → Reps Z H ds (fs.map (·.2)) → Rep Z H (.exv a dd C ns ds) (.ref a)
inductive Reps (Z H : Hp) : List D → List V → Prop
  | nil : Reps Z H [] []
  | cons {d v ds vs} : Rep Z H d v → Reps Z H ds vs → Reps Z H (d :: ds) (v :: vs)
end
mutual
/-- owned data with its footprint -/
inductive RepT (Z H : Hp) : T → V → List Addr → Prop
  | z {d v} : Rep K Z H d v → RepT Z H (.z d) v []
  | tup {a vs ts F} : H a = some (.tup vs) → RepTs Z H ts vs F → RepT Z H (.tup ts) (.ref a) F
  | lst {a vs ts F} : H a = some (.lst vs) → RepTs Z H ts vs F → RepT Z H (.lst ts) (.ref a) (a :: F)
  | dic {a o b ks vs ts F} : H a = some o → DicN b o ks vs → RepTs Z H ts vs F → RepT Z H (.dic b ks ts) (.ref a) (a :: F)
  | obj {a C dx fs ns ts F} : H a = some (.ins C dx fs) → fs.map (·.1) = ns → RepTs Z H ts (fs.map (·.2)) F → RepT Z H (.obj C ns ts) (.ref a) (a :: F)
inductive RepTs (Z H : Hp) : List T → List V → List Addr → Prop
  | nil : RepTs Z H [] [] []
  | cons {t v ts vs F G} : RepT Z H t v F → RepTs Z H ts vs G → RepTs Z H (t :: ts) (v :: vs) (F ++ G)
end
end

section
variable {K : PySem.W.Frag} {Z H Z' H' : Hp}
theorem SqL.mono (zz : ∀ a o, Z a = some o → Z' a = some o) {a xs} (h : SqL K Z a xs) : SqL K Z' a xs := by
  rcases h with h | h
  · rcases h with h | ⟨o, h⟩
    · exact .inl (.inl (zz _ _ h))
    · exact .inl (.inr ⟨o, zz _ _ h⟩)
  · exact .inr h
mutual
theorem Rep.mono (zz : ∀ a o, Z a = some o → Z' a = some o) (tt : ∀ a xs, H a = some (.tup xs) → H' a = some (.tup xs)) : ∀ {d v}, Rep K Z H d v → Rep K Z' H' d v
  | _, _, .non => .non
  | _, _, .bl => .bl
  | _, _, .int => .int
  | _, _, .str => .str
  | _, _, .ref => .ref
  | _, _, .ty => .ty
  | _, _, .tup h r => .tup (tt _ _ h) (Reps.mono zz tt r)
  | _, _, .lst h r => .lst (zz _ _ h) (Reps.mono zz tt r)
  | _, _, .kls h r => .kls (SqL.mono zz h) (Reps.mono zz tt r)
  | _, _, .dic h n r => .dic (zz _ _ h) n (Reps.mono zz tt r)
  | _, _, .obj h n r => .obj (zz _ _ h) n (Reps.mono zz tt r)
  | _, _, .exv h n r => .exv (zz _ _ h) n (Reps.mono zz tt r)
theorem Reps.mono (zz : ∀ a o, Z a = some o → Z' a = some o) (tt : ∀ a xs, H a = some (.tup xs) → H' a = some (.tup xs)) : ∀ {ds vs}, Reps K Z H ds vs → Reps K Z' H' ds vs
  | _, _, .nil => .nil
  | _, _, .cons r s => .cons (Rep.mono zz tt r) (Reps.mono zz tt s)
end
mutual
/-- immutable data leans on the tuples alone -/
theorem Rep.imm (tt : ∀ a xs, H a = some (.tup xs) → H' a = some (.tup xs)) : ∀ {d v}, Rep K Z H d v → d.imm = true → Rep K Z' H' d v
  | _, _, .non, _ => .non
  | _, _, .bl, _ => .bl
  | _, _, .int, _ => .int
  | _, _, .str, _ => .str
  | _, _, .ref, _ => .ref
  | _, _, .ty, _ => .ty
  | _, _, .tup h r, e => .tup (tt _ _ h) (Reps.imm tt r (by simpa [D.imm] using e))
  | _, _, .lst h r, e => by simp [D.imm] at e
  | _, _, .kls h r, e => by simp [D.imm] at e
  | _, _, .dic h n r, e => by simp [D.imm] at e
  | _, _, .obj h n r, e => by simp [D.imm] at e
  | _, _, .exv h n r, e => by simp [D.imm] at e
theorem Reps.imm (tt : ∀ a xs, H a = some (.tup xs) → H' a = some (.tup xs)) : ∀ {ds vs}, Reps K Z H ds vs → D.imms ds = true → Reps K Z' H' ds vs
  | _, _, .nil, _ => .nil
  | _, _, .cons r s, e => by
    simp only [D.imms, Bool.and_eq_true] at e
    exact .cons (Rep.imm tt r e.1) (Reps.imm tt s e.2)
end
mutual
theorem RepT.keep (zz : ∀ a o, Z a = some o → Z' a = some o) (tt : ∀ a xs, H a = some (.tup xs) → H' a = some (.tup xs)) :
    ∀ {t v F}, RepT K Z H t v F → (∀ a ∈ F, ∀ o, H a = some o → H' a = some o) → RepT K Z' H' t v F
  | _, _, _, .z r, _ => .z (r.mono zz tt)
  | _, _, _, .tup h r, k => .tup (tt _ _ h) (RepTs.keep zz tt r k)
  | _, _, _, .lst h r, k => .lst (k _ List.mem_cons_self _ h) (RepTs.keep zz tt r fun a ha => k a (List.mem_cons_of_mem _ ha))
  | _, _, _, .dic h n r, k => .dic (k _ List.mem_cons_self _ h) n (RepTs.keep zz tt r fun a ha => k a (List.mem_cons_of_mem _ ha))
  | _, _, _, .obj h n r, k => .obj (k _ List.mem_cons_self _ h) n (RepTs.keep zz tt r fun a ha => k a (List.mem_cons_of_mem _ ha))
theorem RepTs.keep (zz : ∀ a o, Z a = some o → Z' a = some o) (tt : ∀ a xs, H a = some (.tup xs) → H' a = some (.tup xs)) :
    ∀ {ts vs F}, RepTs K Z H ts vs F → (∀ a ∈ F, ∀ o, H a = some o → H' a = some o) → RepTs K Z' H' ts vs F
  | _, _, _, .nil, _ => .nil
  | _, _, _, .cons r s, k => .cons (RepT.keep zz tt r fun a ha => k a (List.mem_append_left _ ha)) (RepTs.keep zz tt s fun a ha => k a (List.mem_append_right _ ha))
end
mutual
/-- frozen: the nodes go over into a greater Z -/
theorem RepT.frz (zz : ∀ a o, Z a = some o → Z' a = some o) : ∀ {t v F}, RepT K Z H t v F → (∀ a ∈ F, ∀ o, H a = some o → Z' a = some o) → Rep K Z' H t.er v
  | _, _, _, .z r, _ => by rw [T.er]; exact r.mono zz fun _ _ h => h
  | _, _, _, .tup h r, k => by rw [T.er]; exact .tup h (RepTs.frz zz r k)
  | _, _, _, .lst h r, k => by rw [T.er]; exact .lst (k _ List.mem_cons_self _ h) (RepTs.frz zz r fun a ha => k a (List.mem_cons_of_mem _ ha))
  | _, _, _, .dic h n r, k => by rw [T.er]; exact .dic (k _ List.mem_cons_self _ h) n (RepTs.frz zz r fun a ha => k a (List.mem_cons_of_mem _ ha))
  | _, _, _, .obj h n r, k => by rw [T.er]; exact .obj (k _ List.mem_cons_self _ h) n (RepTs.frz zz r fun a ha => k a (List.mem_cons_of_mem _ ha))
theorem RepTs.frz (zz : ∀ a o, Z a = some o → Z' a = some o) : ∀ {ts vs F}, RepTs K Z H ts vs F → (∀ a ∈ F, ∀ o, H a = some o → Z' a = some o) → Reps K Z' H (T.ers ts) vs
  | _, _, _, .nil, _ => by rw [T.ers]; exact .nil
  | _, _, _, .cons r s, k => by rw [T.ers]; exact .cons (RepT.frz zz r fun a ha => k a (List.mem_append_left _ ha)) (RepTs.frz zz s fun a ha => k a (List.mem_append_right _ ha))
end
mutual
theorem RepT.mu : ∀ {t v F}, RepT K Z H t v F → ∀ a ∈ F, Mut (H a)
  | _, _, _, .z r, a, h => by simp at h
  | _, _, _, .tup _ r, a, h => RepTs.mu r a h
  | _, _, _, .lst e r, a, h => by
    rcases List.mem_cons.mp h with rfl | h
    · rw [e]; trivial
    · exact RepTs.mu r a h
  | _, _, _, .dic e n r, a, h => by
    rcases List.mem_cons.mp h with rfl | h
    · rw [e]; exact n.mu
    · exact RepTs.mu r a h
  | _, _, _, .obj e n r, a, h => by
    rcases List.mem_cons.mp h with rfl | h
    · rw [e]; trivial
    · exact RepTs.mu r a h
theorem RepTs.mu : ∀ {ts vs F}, RepTs K Z H ts vs F → ∀ a ∈ F, Mut (H a)
  | _, _, _, .nil, a, h => by simp at h
  | _, _, _, .cons r s, a, h => by
    rcases List.mem_append.mp h with h | h
    · exact RepT.mu r a h
    · exact RepTs.mu s a h
end
theorem Reps.length {ds : List D} {vs : List V} (h : Reps K Z H ds vs) : ds.length = vs.length := by
  induction ds generalizing vs with
  | nil => cases h; rfl
  | cons d ds ih => cases h with | cons _ s => simp [ih s]
theorem RepTs.length {ts : List T} {vs : List V} {F} (h : RepTs K Z H ts vs F) : ts.length = vs.length := by
  induction ts generalizing vs F with
  | nil => cases h; rfl
  | cons d ds ih => cases h with | cons _ s => simp [ih s]
theorem Reps.get {ds : List D} {vs : List V} (h : Reps K Z H ds vs) : ∀ {i : Nat} {d : D}, ds[i]? = some d → ∃ v, vs[i]? = some v ∧ Rep K Z H d v := by
  induction ds generalizing vs with
  | nil => intro i d e; simp at e
  | cons x xs ih =>
    cases h with
    | cons r s =>
      intro i d e
      cases i with
      | zero => simp at e; subst e; exact ⟨_, by simp, r⟩
      | succ i => simp at e; obtain ⟨v, h1, h2⟩ := ih s e; exact ⟨v, by simpa using h1, h2⟩
end

/-! ### the state -/
structure Ok (Z H : Hp) (F : List Addr) : Prop where
  sub : ∀ a o, Z a = some o → H a = some o
  nod : F.Nodup
  dis : ∀ a ∈ F, Z a = none
  mu : ∀ a ∈ F, Mut (H a)
structure Ext (Z H : Hp) (F : List Addr) (Z' H' : Hp) (F' : List Addr) : Prop where
  zz : ∀ a o, Z a = some o → Z' a = some o
  hh : ∀ a o, H a = some o → a ∉ F → H' a = some o
  ff : ∀ a ∈ F', a ∈ F ∨ H a = none
  zn : ∀ a o, Z' a = some o → Z a = some o ∨ a ∈ F ∨ ¬ Mut (H a)
theorem Ext.refl {Z H : Hp} {F : List Addr} : Ext Z H F Z H F := ⟨fun _ _ h => h, fun _ _ h _ => h, fun _ h => .inl h, fun _ _ h => .inl h⟩
theorem Ext.trans {Z H Z1 H1 Z2 H2 : Hp} {F F1 F2 : List Addr} (x : Ext Z H F Z1 H1 F1) (y : Ext Z1 H1 F1 Z2 H2 F2) : Ext Z H F Z2 H2 F2 where
  zz := fun a o h => y.zz a o (x.zz a o h)
  hh := fun a o h n => y.hh a o (x.hh a o h n) fun m => by
    rcases x.ff a m with z | z
    · exact n z
    · rw [h] at z; cases z
  ff := fun a m => by
    rcases y.ff a m with z | z
    · exact x.ff a z
    · cases e : H a with
      | none => exact .inr rfl
      | some o =>
        refine .inl (Classical.byContradiction fun n => ?_)
        rw [x.hh a o e n] at z; cases z
  zn := fun a o h => by
    rcases y.zn a o h with z | z | z
    · exact x.zn a o z
    · exact .inr ((x.ff a z).imp id fun e m => by rw [e] at m; exact m)
    · refine Classical.byCases (fun m : a ∈ F => .inr (.inl m)) fun n => .inr (.inr fun mu => ?_)
      cases e : H a with
      | none => rw [e] at mu; exact mu
      | some u =>
        rw [x.hh a u e n] at z
        rw [e] at mu
        exact z mu
/-- less is owned behind it -/
theorem Ext.sub {Z H Z1 H1 : Hp} {F F1 F2 : List Addr} (x : Ext Z H F Z1 H1 F1) (h : ∀ a ∈ F2, a ∈ F1) : Ext Z H F Z1 H1 F2 :=
  ⟨x.zz, x.hh, fun a m => x.ff a (h a m), x.zn⟩
/-- more is owned ahead of it and kept -/
theorem Ext.wide {Z H Z1 H1 : Hp} {F F1 G : List Addr} (x : Ext Z H F Z1 H1 F1) : Ext Z H (F ++ G) Z1 H1 (F1 ++ G) :=
  ⟨x.zz, fun a o h n => x.hh a o h fun m => n (List.mem_append_left _ m), fun a m => by
    rcases List.mem_append.mp m with m | m
    · rcases x.ff a m with z | z
      · exact .inl (List.mem_append_left _ z)
      · exact .inr z
    · exact .inl (List.mem_append_right _ m), fun a o h => by
    rcases x.zn a o h with z | z | z
    · exact .inl z
    · exact .inr (.inl (List.mem_append_left _ z))
    · exact .inr (.inr z)⟩
theorem Ext.wideL {Z H Z1 H1 : Hp} {F F1 G : List Addr} (x : Ext Z H F Z1 H1 F1) : Ext Z H (G ++ F) Z1 H1 (G ++ F1) :=
  ⟨x.zz, fun a o h n => x.hh a o h fun m => n (List.mem_append_right _ m), fun a m => by
    rcases List.mem_append.mp m with m | m
    · exact .inl (List.mem_append_left _ m)
    · rcases x.ff a m with z | z
      · exact .inl (List.mem_append_right _ z)
      · exact .inr z, fun a o h => by
    rcases x.zn a o h with z | z | z
    · exact .inl z
    · exact .inr (.inl (List.mem_append_right _ z))
    · exact .inr (.inr z)⟩
theorem rd_mut {H : Hp} {a : Addr} {xs : List V} (h : Rd H a (.tup xs)) (m : Mut (H a)) : False := by
  rcases h with h | ⟨o, h⟩ <;> rw [h] at m <;> exact m
theorem Ext.tt {Z H Z' H' : Hp} {F F' : List Addr} (x : Ext Z H F Z' H' F') (ok : Ok Z H F) : ∀ a xs, H a = some (.tup xs) → H' a = some (.tup xs) := fun a xs h => by
  have n : a ∉ F := fun m => rd_mut (.inl h) (ok.mu a m)
  exact x.hh a _ h n
/-- what is owned beside stays -/
theorem RepT.frame {K : PySem.W.Frag} {Z H Z' H' : Hp} {F F' G : List Addr} {t : T} {v : V} (r : RepT K Z H t v G) (x : Ext Z H F Z' H' F') (ok : Ok Z H (F ++ G)) : RepT K Z' H' t v G := by
  have okF : Ok Z H F := ⟨ok.sub, (List.nodup_append.mp ok.nod).1, fun a h => ok.dis a (List.mem_append_left _ h), fun a h => ok.mu a (List.mem_append_left _ h)⟩
  exact r.keep x.zz (x.tt okF) fun a ha o e => x.hh a o e fun m => (List.nodup_append.mp ok.nod).2.2 a m a ha rfl
theorem RepTs.frame {K : PySem.W.Frag} {Z H Z' H' : Hp} {F F' G : List Addr} {t : List T} {v : List V} (r : RepTs K Z H t v G) (x : Ext Z H F Z' H' F') (ok : Ok Z H (F ++ G)) : RepTs K Z' H' t v G := by
  have okF : Ok Z H F := ⟨ok.sub, (List.nodup_append.mp ok.nod).1, fun a h => ok.dis a (List.mem_append_left _ h), fun a h => ok.mu a (List.mem_append_left _ h)⟩
  exact r.keep x.zz (x.tt okF) fun a ha o e => x.hh a o e fun m => (List.nodup_append.mp ok.nod).2.2 a m a ha rfl
theorem Ok.subF {Z H : Hp} {F G : List Addr} (ok : Ok Z H F) (h : G.Sublist F) : Ok Z H G :=
  ⟨ok.sub, ok.nod.sublist h, fun a m => ok.dis a (h.subset m), fun a m => ok.mu a (h.subset m)⟩
theorem Ok.left {Z H : Hp} {F G : List Addr} (ok : Ok Z H (F ++ G)) : Ok Z H F := ok.subF (List.sublist_append_left _ _)
theorem Ok.right {Z H : Hp} {F G : List Addr} (ok : Ok Z H (F ++ G)) : Ok Z H G := ok.subF (List.sublist_append_right _ _)
theorem Ok.perm {Z H : Hp} {F G : List Addr} (ok : Ok Z H F) (h : F.Perm G) : Ok Z H G :=
  ⟨ok.sub, h.nodup_iff.mp ok.nod, fun a m => ok.dis a (h.mem_iff.mpr m), fun a m => ok.mu a (h.mem_iff.mpr m)⟩
/-- the state behind a step, with what is owned beside -/
theorem Ok.beside {Z H Z' H' : Hp} {F F' G : List Addr} (x : Ext Z H F Z' H' F') (ok' : Ok Z' H' F') (ok : Ok Z H (F ++ G)) : Ok Z' H' (F' ++ G) where
  sub := ok'.sub
  nod := by
    refine List.nodup_append.mpr ⟨ok'.nod, (List.nodup_append.mp ok.nod).2.1, fun a ha b hb e => ?_⟩
    subst e
    rcases x.ff a ha with z | z
    · exact (List.nodup_append.mp ok.nod).2.2 a z a hb rfl
    · have m := ok.mu a (List.mem_append_right _ hb)
      rw [z] at m; exact m
  dis := fun a h => by
    rcases List.mem_append.mp h with h | h
    · exact ok'.dis a h
    · cases e : Z' a with
      | none => rfl
      | some o =>
        rcases x.zn a o e with z | z | z
        · rw [ok.dis a (List.mem_append_right _ h)] at z; cases z
        · exact ((List.nodup_append.mp ok.nod).2.2 a z a h rfl).elim
        · exact (z (ok.mu a (List.mem_append_right _ h))).elim
  mu := fun a h => by
    rcases List.mem_append.mp h with h | h
    · exact ok'.mu a h
    · have m := ok.mu a (List.mem_append_right _ h)
      cases e : H a with
      | none => rw [e] at m; exact m.elim
      | some o =>
        rw [x.hh a o e fun z => (List.nodup_append.mp ok.nod).2.2 a z a h rfl]
        rw [e] at m; exact m

/-! ### environments -/
abbrev En := List (Option T)
inductive SlotR (K : PySem.W.Frag) (Z H : Hp) : Option T → Option V → List Addr → Prop
  | no {o} : SlotR K Z H none o []
  | so {t v F} : RepT K Z H t v F → SlotR K Z H (some t) (some v) F
inductive EnvR (K : PySem.W.Frag) (Z H : Hp) : En → L2.St → List Addr → Prop
  | nil : EnvR K Z H [] [] []
  | cons {e o F env σ G} : SlotR K Z H e o F → EnvR K Z H env σ G → EnvR K Z H (e :: env) (o :: σ) (F ++ G)
section
variable {K : PySem.W.Frag} {Z H Z' H' : Hp}
theorem SlotR.keep (zz : ∀ a o, Z a = some o → Z' a = some o) (tt : ∀ a xs, H a = some (.tup xs) → H' a = some (.tup xs)) {e o F} (h : SlotR K Z H e o F) (k : ∀ a ∈ F, ∀ o, H a = some o → H' a = some o) : SlotR K Z' H' e o F := by
  cases h with
  | no => exact .no
  | so r => exact .so (r.keep zz tt k)
theorem EnvR.keep (zz : ∀ a o, Z a = some o → Z' a = some o) (tt : ∀ a xs, H a = some (.tup xs) → H' a = some (.tup xs)) {env σ F} (h : EnvR K Z H env σ F) (k : ∀ a ∈ F, ∀ o, H a = some o → H' a = some o) : EnvR K Z' H' env σ F := by
  induction h with
  | nil => exact .nil
  | cons s _ ih => exact .cons (s.keep zz tt fun a ha => k a (List.mem_append_left _ ha)) (ih fun a ha => k a (List.mem_append_right _ ha))
theorem EnvR.length {env σ F} (h : EnvR K Z H env σ F) : env.length = σ.length := by
  induction h with
  | nil => rfl
  | cons _ _ ih => simp [ih]
/-- one slot, and what another one makes of the rest -/
theorem EnvR.lens {env σ F} (h : EnvR K Z H env σ F) : ∀ {i : Nat} {e : Option T}, env[i]? = some e → ∃ A Fi B o, F = A ++ Fi ++ B ∧ σ[i]? = some o ∧ SlotR K Z H e o Fi ∧
    ∀ Z' H', (∀ a o, Z a = some o → Z' a = some o) → (∀ a xs, H a = some (.tup xs) → H' a = some (.tup xs)) → (∀ a ∈ A ++ B, ∀ o, H a = some o → H' a = some o) →
      ∀ e' o' G, SlotR K Z' H' e' o' G → EnvR K Z' H' (env.set i e') (σ.set i o') (A ++ G ++ B) := by
  induction h with
  | nil => intro i e q; simp at q
  | @cons e0 o0 F0 env0 σ0 G0 s r ih =>
    intro i e q
    cases i with
    | zero =>
      simp at q; subst q
      refine ⟨[], F0, G0, o0, by simp, by simp, s, fun Z' H' zz tt k e' o' G s' => ?_⟩
      simpa using EnvR.cons s' (r.keep zz tt fun a ha => k a (by simpa using ha))
    | succ i =>
      simp at q
      obtain ⟨A, Fi, B, o, e1, e2, e3, e4⟩ := ih q
      refine ⟨F0 ++ A, Fi, B, o, by simp [e1], by simpa using e2, e3, fun Z' H' zz tt k e' o' G s' => ?_⟩
      have z := EnvR.cons (s.keep zz tt fun a ha => k a (by simp [ha])) (e4 Z' H' zz tt (fun a ha => k a (by simp only [List.mem_append] at ha ⊢; rcases ha with h | h; exact .inl (.inr h); exact .inr h)) e' o' G s')
      simpa using z
end
end DL

/-! DL1: judgements of expressions by what they compute over data. -/
namespace DL
open PySem PySem.Spec PyProof.Rows L2

structure Exc where
  C : Addr
  ns : List Str
  vs : List D
inductive Res (α : Type) where
  | ok (a : α) (e : En)
  | ex (x : Exc) (e : En)
abbrev EM (α : Type) := En → Option (Res α)
/-- an operand: a value of its own (owned or frozen), the name in a slot, or data that is only looked at -/
inductive Opd where
  | t (t : T) | s (i : Nat) | k (d : D)
@[simp] def Opd.stays : Opd → Bool
  | .k d => d.imm
  | _ => true
inductive OpdR (K : PySem.W.Frag) (Z H : Hp) (σ : L2.St) : Opd → V → List Addr → Prop
  | t {u v G} : RepT K Z H u v G → OpdR K Z H σ (.t u) v G
  | s {i v} : σ[i]? = some (some v) → OpdR K Z H σ (.s i) v []
  | k {d v} : Rep K H H d v → OpdR K Z H σ (.k d) v []
inductive OpdRs (K : PySem.W.Frag) (Z H : Hp) (σ : L2.St) : List Opd → List V → List Addr → Prop
  | nil : OpdRs K Z H σ [] [] []
  | cons {o v G os vs G'} : OpdR K Z H σ o v G → OpdRs K Z H σ os vs G' → OpdRs K Z H σ (o :: os) (v :: vs) (G ++ G')
/-- how an exception's own dict lies -/
def ExR (K : PySem.W.Frag) (Z H : Hp) (x : Exc) (d : Option Addr) : Prop :=
  (x.ns = [] ∧ x.vs = [] ∧ d = none) ∨ x.ns ≠ [] ∧ ∃ a fs, d = some a ∧ H a = some (.xd fs) ∧ fs.map (·.1) = x.ns ∧ Reps K Z H x.vs (fs.map (·.2))

def Grow (H H' : Hp) : Prop := ∀ a u, H a = some u → H' a = some u
def PostX (K : PySem.W.Frag) (W : WX) (σ : L2.St) (Z H : Hp) (F : List Addr) (x : Exc) (env' : En) : Prop :=
  ∀ d H' Z' F' σ', Ext Z H F Z' H' F' → Ok Z' H' F' → EnvR K Z' H' env' σ' F' → ExR K Z' H' x d → W (.ref x.C) d σ' H'
def PostE (K : PySem.W.Frag) (W : WX) (p : Bool) (σ : L2.St) (Q : VK) (Z H : Hp) (F : List Addr) (env : En) : Res Opd → Prop
  | .ok o env' => ∀ v H' Z' F' G, Ext Z H F Z' H' (F' ++ G) → Ok Z' H' (F' ++ G) → EnvR K Z' H' env' σ F' → OpdR K Z' H' σ o v G → (p = true → env' = env ∧ F' = F ∧ Z' = Z ∧ Grow H H') → Q v H'
  | .ex x env' => ∀ d H' Z' F', Ext Z H F Z' H' F' → Ok Z' H' F' → EnvR K Z' H' env' σ F' → ExR K Z' H' x d → W (.ref x.C) d σ H'
def tQ (K : PySem.W.Frag) (W : WX) (p : Bool) (f : EM Opd) : TE := fun σ H Q =>
  ∃ Z env F, Ok Z H F ∧ EnvR K Z H env σ F ∧ ∃ r, f env = some r ∧ PostE K W p σ Q Z H F env r
def PostA (K : PySem.W.Frag) (W : WX) (p : Bool) (σ : L2.St) (Q : List V → Hp → Prop) (Z H : Hp) (F : List Addr) (env : En) : Res (List Opd) → Prop
  | .ok o env' => ∀ v H' Z' F' G, Ext Z H F Z' H' (F' ++ G) → Ok Z' H' (F' ++ G) → EnvR K Z' H' env' σ F' → OpdRs K Z' H' σ o v G → (p = true → env' = env ∧ F' = F ∧ Z' = Z ∧ Grow H H') → Q v H'
  | .ex x env' => ∀ d H' Z' F', Ext Z H F Z' H' F' → Ok Z' H' F' → EnvR K Z' H' env' σ F' → ExR K Z' H' x d → W (.ref x.C) d σ H'
def tAQ (K : PySem.W.Frag) (W : WX) (p : Bool) (f : EM (List Opd)) : TA := fun σ H Q =>
  ∃ Z env F, Ok Z H F ∧ EnvR K Z H env σ F ∧ ∃ r, f env = some r ∧ PostA K W p σ Q Z H F env r
/-- a test -/
def PostT (K : PySem.W.Frag) (W : WX) (p : Bool) (σ : L2.St) (Q : Bool → Hp → Prop) (Z H : Hp) (F : List Addr) (env : En) : Res Bool → Prop
  | .ok b env' => ∀ H' Z' F', Ext Z H F Z' H' F' → Ok Z' H' F' → EnvR K Z' H' env' σ F' → (p = true → env' = env ∧ F' = F ∧ Z' = Z ∧ Grow H H') → Q b H'
  | .ex x env' => ∀ d H' Z' F', Ext Z H F Z' H' F' → Ok Z' H' F' → EnvR K Z' H' env' σ F' → ExR K Z' H' x d → W (.ref x.C) d σ H'
def tTQ (K : PySem.W.Frag) (W : WX) (p : Bool) (f : EM Bool) : TT := fun σ H Q =>
  ∃ Z env F, Ok Z H F ∧ EnvR K Z H env σ F ∧ ∃ r, f env = some r ∧ PostT K W p σ Q Z H F env r

abbrev PQ (X : Cx) (W : WX) (p : Bool) (e : Expr) (f : EM Opd) : Prop := PE X e (tQ X.K W p f)
abbrev PAQ (X : Cx) (W : WX) (p : Bool) (es : List Expr) (f : EM (List Opd)) : Prop := PA X es (tAQ X.K W p f)
abbrev PTQ (X : Cx) (W : WX) (p : Bool) (e : Expr) (f : EM Bool) : Prop := PT X e (tTQ X.K W p f)

section
variable {X : Cx} {e : Expr} {es : List Expr}
theorem _root_.L2.PE.imp {t t' : TE} (h : PE X e t) (i : ∀ σ H Q, t' σ H Q → t σ H Q) : PE X e t' := ⟨fun pins s σ H Q I q => h.run pins s σ H Q I (i σ H Q q)⟩
theorem _root_.L2.PT.imp {t t' : TT} (h : PT X e t) (i : ∀ σ H Q, t' σ H Q → t σ H Q) : PT X e t' := ⟨fun pins s σ H Q I q => h.run pins s σ H Q I (i σ H Q q)⟩
theorem _root_.L2.PA.imp {t t' : TA} (h : PA X es t) (i : ∀ σ H Q, t' σ H Q → t σ H Q) : PA X es t' := ⟨fun pos pins s σ H Q I q => h.run pos pins s σ H Q I (i σ H Q q)⟩
end

section
variable {K : PySem.W.Frag} {W : WX} {σ : L2.St} {H H' Z Z' : Hp} {env : En} {F F' G : List Addr}
theorem EnvR.at (h : EnvR K Z H env σ F) {i : Nat} {t : T} (e : env[i]? = some (some t)) : ∃ v Fi, σ[i]? = some (some v) ∧ RepT K Z H t v Fi ∧ ∀ a ∈ Fi, a ∈ F := by
  obtain ⟨A, Fi, B, o, e1, e2, e3, _⟩ := h.lens e
  cases e3 with
  | so r => exact ⟨_, Fi, e2, r, fun a ha => by rw [e1]; simp [ha]⟩
theorem Grow.tt (g : Grow H H') : ∀ a xs, H a = some (.tup xs) → H' a = some (.tup xs) := fun a xs h => g _ _ h
/-- an operand behind a later step -/
theorem OpdR.later {o : Opd} {v : V} (r : OpdR K Z H σ o v G) (x : Ext Z H F Z' H' F') (ok : Ok Z H (F ++ G)) (s : o.stays = true ∨ Grow H H') : OpdR K Z' H' σ o v G := by
  cases r with
  | t r => exact .t (r.frame x ok)
  | s e => exact .s e
  | k r =>
    rcases s with s | g
    · exact .k (r.imm (x.tt ok.left) s)
    · exact .k (r.mono g g.tt)
@[simp] def Opd.rd (env : En) : Opd → Option D
  | .t u => some u.er
  | .s i => match env[i]? with
    | some (some u) => some u.er
    | _ => none
  | .k d => some d
@[simp] def rds (env : En) : List Opd → Option (List D)
  | [] => some []
  | o :: os => match o.rd env, rds env os with
    | some d, some ds => some (d :: ds)
    | _, _ => none
theorem RepT.look {t : T} {v : V} (r : RepT K Z H t v G) (ok : ∀ a o, Z a = some o → H a = some o) : Rep K H H t.er v := r.frz ok fun _ _ _ h => h
theorem OpdR.look {o : Opd} {v : V} {d : D} (r : OpdR K Z H σ o v G) (sub : ∀ a o, Z a = some o → H a = some o) (er : EnvR K Z H env σ F) (e : o.rd env = some d) : Rep K H H d v := by
  cases r with
  | t r => simp only [Opd.rd, Option.some.injEq] at e; subst e; exact r.look sub
  | k r => simp only [Opd.rd, Option.some.injEq] at e; subst e; exact r
  | @s i v h =>
    simp only [Opd.rd] at e
    split at e
    · rename_i t q
      simp only [Option.some.injEq] at e; subst e
      obtain ⟨v', Fi, h1, h2, _⟩ := er.at q
      rw [h] at h1; cases h1
      exact h2.look sub
    · cases e
theorem OpdRs.look {os : List Opd} {vs : List V} {ds : List D} (r : OpdRs K Z H σ os vs G) (sub : ∀ a o, Z a = some o → H a = some o) (er : EnvR K Z H env σ F) (e : rds env os = some ds) : Reps K H H ds vs := by
  induction r generalizing ds with
  | nil => simp only [rds, Option.some.injEq] at e; subst e; exact .nil
  | cons r _ ih =>
    simp only [rds] at e
    split at e
    · rename_i d ds' e1 e2
      simp only [Option.some.injEq] at e; subst e
      exact .cons (r.look sub er e1) (ih e2)
    · cases e
/-- the state stands as it was -/
theorem PostE.here {p : Bool} {Q : VK} {o : Opd} (h : PostE K W p σ Q Z H F env (.ok o env)) (ok : Ok Z H F) (er : EnvR K Z H env σ F) {v : V} (r : OpdR K Z H σ o v []) : Q v H :=
  h v H Z F [] (by simpa using Ext.refl) (by simpa using ok) er r fun _ => ⟨rfl, rfl, rfl, fun _ _ z => z⟩
end

/-! ### names and constants -/
def sVar (i : Nat) : EM Opd := fun env => match env[i]? with
  | some (some (.z d)) => some (.ok (.t (.z d)) env)
  | some (some _) => some (.ok (.s i) env)
  | _ => none
def sC (d : D) : EM Opd := fun env => some (.ok (.t (.z d)) env)
section
variable {X : Cx} {W : WX} {pos : Pos} {x : Str}
theorem pq_var {p : Bool} (i : Nat) (h : PE X (.Name x pos) (tVar i)) : PQ X W p (.Name x pos) (sVar i) := by
  refine h.imp fun σ H Q ⟨Z, env, F, ok, er, r, hr, post⟩ => ?_
  unfold sVar at hr
  split at hr
  · rename_i d q
    cases hr
    obtain ⟨v, Fi, h1, h2, h3⟩ := er.at q
    cases h2 with
    | z h2 => exact ⟨v, h1, post.here ok er (.t (.z h2))⟩
  · rename_i t _ q
    cases hr
    obtain ⟨v, Fi, h1, h2, h3⟩ := er.at q
    exact ⟨v, h1, post.here ok er (.s h1)⟩
  · cases hr
theorem pq_c {p : Bool} {e : Expr} {v : V} {d : D} (h : PE X e (tC v)) (r : ∀ K Z H, Rep K Z H d v) : PQ X W p e (sC d) := by
  refine h.imp fun σ H Q ⟨Z, env, F, ok, er, r', hr, post⟩ => ?_
  cases hr
  exact post.here ok er (.t (.z (r _ _ _)))
theorem pq_int {p : Bool} {i : Int} {j} : PQ X W p (.Constant (.int i) j pos) (sC (.int i)) := pq_c pe_int fun _ _ _ => .int
theorem pq_bl {p : Bool} {b : Bool} {j} : PQ X W p (.Constant (.bool b) j pos) (sC (.bl b)) := pq_c pe_bl fun _ _ _ => .bl
theorem pq_non {p : Bool} {j} : PQ X W p (.Constant .none j pos) (sC .non) := pq_c pe_non fun _ _ _ => .non
theorem pq_str {p : Bool} {s : Str} {j} : PQ X W p (.Constant (.str s) j pos) (sC (.str s)) := pq_c pe_str fun _ _ _ => .str
/-- pure is not pure, too -/
theorem PostE.weak {K : PySem.W.Frag} {σ : L2.St} {Q : VK} {Z H : Hp} {F : List Addr} {env : En} {r : Res Opd} (h : PostE K W false σ Q Z H F env r) : PostE K W true σ Q Z H F env r := by
  cases r with
  | ok o env' => exact fun v H' Z' F' G a b c d _ => h v H' Z' F' G a b c d fun z => nomatch z
  | ex x env' => exact h
theorem PQ.any {e : Expr} {f : EM Opd} (h : PQ X W true e f) : PQ X W false e f := by
  refine PE.imp h fun σ H Q ⟨Z, env, F, ok, er, r, hr, post⟩ => ⟨Z, env, F, ok, er, r, hr, post.weak⟩
end

/-! ### lists of operands -/
def sNil : EM (List Opd) := fun env => some (.ok [] env)
def sCons (p2 : Bool) (fa : EM Opd) (fr : EM (List Opd)) : EM (List Opd) := fun env =>
  match fa env with
  | none => none
  | some (.ex x env1) => some (.ex x env1)
  | some (.ok o env1) => match fr env1 with
    | none => none
    | some (.ex x env2) => some (.ex x env2)
    | some (.ok os env2) => if (p2 || o.stays) = true then some (.ok (o :: os) env2) else none
section
variable {X : Cx} {W : WX} {e : Expr} {es : List Expr}
theorem paq_nil {p : Bool} : PAQ X W p [] sNil := by
  refine pa_nil.imp fun σ H Q ⟨Z, env, F, ok, er, r, hr, post⟩ => ?_
  cases hr
  exact post [] H Z F [] (by simpa using Ext.refl) (by simpa using ok) er .nil fun _ => ⟨rfl, rfl, rfl, fun _ _ z => z⟩
/-- one operand, then the others -/
theorem cons_ok {K : PySem.W.Frag} {p1 p2 : Bool} {fa : EM Opd} {fr : EM (List Opd)} {σ : L2.St} {H : Hp} {Q : List V → Hp → Prop} (h : tAQ K W (p1 && p2) (sCons p2 fa fr) σ H Q) :
    tCons (tQ K W p1 fa) (tAQ K W p2 fr) σ H Q := by
  obtain ⟨Z, env, F, ok, er, r, hr, post⟩ := h
  unfold sCons at hr
  split at hr
  · cases hr
  · rename_i x env1 hfa
    cases hr
    exact ⟨Z, env, F, ok, er, _, hfa, post⟩
  · rename_i o env1 hfa
    refine ⟨Z, env, F, ok, er, _, hfa, fun v1 H1 Z1 F1 G1 x1 ok1 er1 or1 pp1 => ?_⟩
    split at hr
    · cases hr
    · rename_i x env2 hfr
      cases hr
      refine ⟨Z1, env1, F1, ok1.left, er1, _, hfr, fun d H' Z' F' x2 ok2 er2 ex2 => ?_⟩
      exact post d H' Z' F' ((x1.sub fun a ha => List.mem_append_left _ ha).trans x2) ok2 er2 ex2
    · rename_i os env2 hfr
      split at hr
      · rename_i hc
        cases hr
        refine ⟨Z1, env1, F1, ok1.left, er1, _, hfr, fun vs H2 Z2 F2 G2 x2 ok2 er2 or2 pp2 => ?_⟩
        have okb : Ok Z2 H2 ((F2 ++ G2) ++ G1) := Ok.beside x2 ok2 ok1
        have st : o.stays = true ∨ Grow H1 H2 := by
          cases p2 with
          | true => exact .inr (pp2 rfl).2.2.2
          | false => exact .inl (by simpa using hc)
        have or1' := or1.later x2 ok1 st
        have xt : Ext Z H F Z2 H2 (F2 ++ (G1 ++ G2)) := (x1.trans (x2.wide (G := G1))).sub fun a ha => by
          simp only [List.mem_append] at ha ⊢
          rcases ha with h | h | h
          · exact .inl (.inl h)
          · exact .inr h
          · exact .inl (.inr h)
        refine post (v1 :: vs) H2 Z2 F2 (G1 ++ G2) xt (okb.perm ?_) er2 (.cons or1' or2) fun e => ?_
        · rw [List.append_assoc]
          exact (List.Perm.append_left F2 List.perm_append_comm)
        · simp only [Bool.and_eq_true] at e
          obtain ⟨a1, a2, a3⟩ := pp1 e.1
          obtain ⟨b1, b2, b3⟩ := pp2 e.2
          exact ⟨b1.trans a1, b2.trans a2, b3.1.trans a3.1, fun a u h => b3.2 a u (a3.2 a u h)⟩
      · cases hr
theorem paq_cons {p1 p2 : Bool} {fa : EM Opd} {fr : EM (List Opd)} (ha : PQ X W p1 e fa) (hr : PAQ X W p2 es fr) (hs : starEach (e :: es) X.env = (false, eval e X.env) :: starEach es X.env := by rfl) :
    PAQ X W (p1 && p2) (e :: es) (sCons p2 fa fr) :=
  (pa_cons ha hr hs).imp fun _ _ _ h => cons_ok h
end
end DL

/-! DL2: operations on operands. -/
namespace DL
open PySem PySem.Spec PyProof.Rows L2

@[simp] def D.scal : D → Bool
  | .non => true | .bl _ => true | .int _ => true | .str _ => true | .ref _ => true | .ty _ => true
  | .tup _ => false | .lst _ => false | .kls _ => false | .dic _ _ _ => false | .obj _ _ _ => false | .exv _ _ _ _ _ => false
def D.v : D → V
  | .non => .non | .bl b => .bl b | .int i => .int i | .str x => .str x | .ref a => .ref a | .ty n => .ty n
  | .tup _ => .non | .lst _ => .non | .kls _ => .non | .dic _ _ _ => .non | .obj _ _ _ => .non | .exv _ _ _ _ _ => .non
theorem rep_scal {K : PySem.W.Frag} {Z H : Hp} {d : D} (h : d.scal = true) : Rep K Z H d d.v := by
  cases d <;> first | (simp [D.scal] at h; done) | constructor

/-! ### monotony, operands one by one -/
section
variable {K : PySem.W.Frag} {W : WX} {σ : L2.St} {H : Hp}
theorem tQ_mono {p : Bool} {f : EM Opd} {Q Q' : VK} (h : tQ K W p f σ H Q) (i : ∀ v H, Q v H → Q' v H) : tQ K W p f σ H Q' := by
  obtain ⟨Z, env, F, ok, er, r, hr, post⟩ := h
  refine ⟨Z, env, F, ok, er, r, hr, ?_⟩
  cases r with
  | ok o e => exact fun v H' Z' F' G a b c d e => i _ _ (post v H' Z' F' G a b c d e)
  | ex x e => exact post
theorem nil_ok {p : Bool} {Q : List V → Hp → Prop} (h : tAQ K W p sNil σ H Q) : Q [] H := by
  obtain ⟨Z, env, F, ok, er, r, hr, post⟩ := h
  cases hr
  exact post [] H Z F [] (by simpa using Ext.refl) (by simpa using ok) er .nil fun _ => ⟨rfl, rfl, rfl, fun _ _ z => z⟩
theorem one_ok {p : Bool} {fa : EM Opd} {Q : List V → Hp → Prop} (h : tAQ K W p (sCons true fa sNil) σ H Q) : tQ K W p fa σ H fun x H1 => Q [x] H1 := by
  have h' : tAQ K W (p && true) (sCons true fa sNil) σ H Q := by simpa using h
  exact tQ_mono (cons_ok h') fun v H1 z => nil_ok z
theorem two_ok {p1 p2 : Bool} {fa fb : EM Opd} {Q : List V → Hp → Prop} (h : tAQ K W (p1 && p2) (sCons p2 fa (sCons true fb sNil)) σ H Q) :
    tQ K W p1 fa σ H fun x H1 => tQ K W p2 fb σ H1 fun y H2 => Q [x, y] H2 :=
  tQ_mono (cons_ok h) fun v H1 z => one_ok z
theorem three_ok {p1 p2 p3 : Bool} {fa fb fc : EM Opd} {Q : List V → Hp → Prop} (h : tAQ K W (p1 && (p2 && p3)) (sCons (p2 && p3) fa (sCons p3 fb (sCons true fc sNil))) σ H Q) :
    tQ K W p1 fa σ H fun x H1 => tQ K W p2 fb σ H1 fun y H2 => tQ K W p3 fc σ H2 fun z H3 => Q [x, y, z] H3 :=
  tQ_mono (cons_ok h) fun v H1 z => two_ok z
end

/-! ### an operation on operands that writes nothing -/
def sO (o : En → List Opd → Option Opd) (fr : EM (List Opd)) : EM Opd := fun env =>
  match fr env with
  | none => none
  | some (.ex x e) => some (.ex x e)
  | some (.ok os e) => match o e os with
    | none => none
    | some x => some (.ok x e)
def Link (K : PySem.W.Frag) (o : En → List Opd → Option Opd) (R : List V → Hp → VK → Prop) : Prop :=
  ∀ (σ : L2.St) (Z H : Hp) (F G : List Addr) (env : En) (os : List Opd) (xs : List V) (o' : Opd) (Q : VK), Ok Z H (F ++ G) → EnvR K Z H env σ F → OpdRs K Z H σ os xs G → o env os = some o' →
    (∀ v H' G', Grow H H' → (∀ a ∈ G', H a = none) → G'.Nodup → OpdR K Z H' σ o' v G' → Q v H') → R xs H Q
section
variable {K : PySem.W.Frag} {W : WX} {σ : L2.St} {H : Hp} {Z : Hp} {F G : List Addr}
theorem Ok.grown {H' : Hp} {G' : List Addr} (ok : Ok Z H F) (g : Grow H H') (fr : ∀ a ∈ G', H a = none) (nd : G'.Nodup) (mu : ∀ a ∈ G', Mut (H' a)) : Ok Z H' (F ++ G') where
  sub := fun a o h => g a o (ok.sub a o h)
  nod := List.nodup_append.mpr ⟨ok.nod, nd, fun a ha b hb e => by subst e; have m := ok.mu a ha; rw [fr a hb] at m; exact m⟩
  dis := fun a h => by
    rcases List.mem_append.mp h with h | h
    · exact ok.dis a h
    · cases e : Z a with
      | none => rfl
      | some o => have z := ok.sub a o e; rw [fr a h] at z; cases z
  mu := fun a h => by
    rcases List.mem_append.mp h with h | h
    · have m := ok.mu a h
      cases e : H a with
      | none => rw [e] at m; exact m.elim
      | some o => rw [g a o e]; rw [e] at m; exact m
    · exact mu a h
theorem Ext.grown {H' : Hp} {G' : List Addr} (g : Grow H H') (fr : ∀ a ∈ G', H a = none) : Ext Z H F Z H' (F ++ G') :=
  ⟨fun _ _ h => h, fun a o h _ => g a o h, fun a h => by
    rcases List.mem_append.mp h with h | h
    · exact .inl h
    · exact .inr (fr a h), fun _ _ h => .inl h⟩
theorem EnvR.grown {H' : Hp} {env : En} (er : EnvR K Z H env σ F) (g : Grow H H') : EnvR K Z H' env σ F := er.keep (fun _ _ h => h) g.tt fun a _ o h => g a o h
theorem OpdR.mu {o : Opd} {v : V} (r : OpdR K Z H σ o v G) : ∀ a ∈ G, Mut (H a) := by
  cases r with
  | t r => exact r.mu
  | s _ => intro a h; simp at h
  | k _ => intro a h; simp at h
theorem o_ok {p : Bool} {o : En → List Opd → Option Opd} {fr : EM (List Opd)} {R : List V → Hp → VK → Prop} {Q : VK} (link : Link K o R) (h : tQ K W p (sO o fr) σ H Q) : tAQ K W p fr σ H fun xs H2 => R xs H2 Q := by
  obtain ⟨Z, env, F, ok, er, r, hr, post⟩ := h
  unfold sO at hr
  split at hr
  · cases hr
  · rename_i x e hf
    cases hr
    exact ⟨Z, env, F, ok, er, _, hf, post⟩
  · rename_i os e hf
    split at hr
    · cases hr
    · rename_i x hx
      cases hr
      refine ⟨Z, env, F, ok, er, _, hf, fun vs H1 Z1 F1 G1 x1 ok1 er1 or1 pp1 => ?_⟩
      refine link σ Z1 H1 F1 G1 e os vs x Q ok1 er1 or1 hx fun v H' G' g fr' nd or2 => ?_
      have ok2 := ok1.left.grown g fr' nd or2.mu
      refine post v H' Z1 F1 G' ((x1.sub fun a ha => List.mem_append_left _ ha).trans (Ext.grown g fr')) ok2 (er1.grown g) or2 fun hp => ?_
      obtain ⟨a, b, c⟩ := pp1 hp
      exact ⟨a, b, c.1, fun q u z => g q u (c.2 q u z)⟩
end

/-! ### scalars of looked-at data -/
@[simp] def oS (g : List D → Option D) : En → List Opd → Option Opd := fun env os =>
  match rds env os with
  | none => none
  | some ds => match g ds with
    | none => none
    | some d => if d.scal = true then some (.t (.z d)) else none
theorem link_S {K : PySem.W.Frag} {g : List D → Option D} {R : List V → Hp → VK → Prop} (l : ∀ (H : Hp) (xs : List V) (ds : List D) (d : D) (Q : VK), Reps K H H ds xs → g ds = some d → Q d.v H → R xs H Q) : Link K (oS g) R := by
  intro σ Z H F G env os xs o' Q ok er or ho hq
  unfold oS at ho
  split at ho
  · cases ho
  · rename_i ds hds
    split at ho
    · cases ho
    · rename_i d hd
      split at ho
      · rename_i hs
        cases ho
        exact l H xs ds d Q (or.look ok.sub er hds) hd (hq d.v H [] (fun _ _ z => z) (fun _ z => nomatch z) List.nodup_nil (.t (.z (rep_scal hs))))
      · cases ho
section
variable {K : PySem.W.Frag} {Z H : Hp} {v : V}
theorem Rep.v_int {i : Int} (h : Rep K Z H (.int i) v) : v = .int i := by cases h; rfl
theorem Rep.v_bl {i : Bool} (h : Rep K Z H (.bl i) v) : v = .bl i := by cases h; rfl
theorem Rep.v_str {i : Str} (h : Rep K Z H (.str i) v) : v = .str i := by cases h; rfl
theorem Rep.v_non (h : Rep K Z H .non v) : v = .non := by cases h; rfl
theorem Rep.v_scal {d : D} (h : Rep K Z H d v) (s : d.scal = true) : v = d.v := by cases h <;> first | rfl | (simp [D.scal] at s)
theorem Reps.two {a b : D} {xs : List V} (h : Reps K Z H [a, b] xs) : ∃ x y, xs = [x, y] ∧ Rep K Z H a x ∧ Rep K Z H b y := by
  cases h with | cons r s => cases s with | cons r' s' => cases s'; exact ⟨_, _, rfl, r, r'⟩
theorem Reps.one {a : D} {xs : List V} (h : Reps K Z H [a] xs) : ∃ x, xs = [x] ∧ Rep K Z H a x := by
  cases h with | cons r s => cases s; exact ⟨_, rfl, r⟩
end

/-! ### sequences: their items -/
@[simp] def zs : List T → Option (List D)
  | [] => some []
  | .z d :: ts => match zs ts with
    | some ds => some (d :: ds)
    | none => none
  | _ :: _ => none
theorem zs_map (ds : List D) : zs (ds.map T.z) = some ds := by
  induction ds with
  | nil => rfl
  | cons d ds ih => simp [zs, ih]
/-- a list's items (tracked) -/
@[simp] def T.elsL : T → Option (List D)
  | .z (.lst ds) => some ds
  | .lst ts => zs ts
  | _ => none
@[simp] def T.elsK : T → Option (List D)
  | .z (.kls ds) => some ds
  | _ => none
@[simp] def T.elsT : T → Option (List D)
  | .z (.tup ds) => some ds
  | .tup ts => zs ts
  | _ => none
@[simp] def Opd.tt (env : En) : Opd → Option T
  | .t u => some u
  | .s i => match env[i]? with
    | some (some u) => some u
    | _ => none
  | .k d => if d.imm = true then some (.z d) else match d with
    | .lst ds => if D.imms ds = true then some (.lst (ds.map .z)) else none
    | _ => none
section
variable {K : PySem.W.Frag} {Z H : Hp} {σ : L2.St} {env : En} {F G : List Addr}
theorem zs_ok : ∀ {ts : List T} {ds : List D} {vs : List V} {F : List Addr}, zs ts = some ds → RepTs K Z H ts vs F → Reps K Z H ds vs
  | [], _, _, _, e, r => by
    simp only [zs, Option.some.injEq] at e; subst e
    cases r; exact .nil
  | .z d :: ts, _, _, _, e, r => by
    simp only [zs] at e
    split at e
    · rename_i ds' e'
      simp only [Option.some.injEq] at e; subst e
      cases r with
      | cons a b => cases a with | z a => exact .cons a (zs_ok e' b)
    · cases e
  | .tup _ :: _, _, _, _, e, _ => by simp [zs] at e
  | .lst _ :: _, _, _, _, e, _ => by simp [zs] at e
  | .dic _ _ _ :: _, _, _, _, e, _ => by simp [zs] at e
  | .obj _ _ _ :: _, _, _, _, e, _ => by simp [zs] at e
/-- a T that is represented at v in the whole heap, for looking -/
def Seen (K : PySem.W.Frag) (Z H : Hp) (u : T) (v : V) : Prop := (∃ F, RepT K Z H u v F) ∨ ∃ vs ds a, u = .lst (ds.map .z) ∧ v = .ref a ∧ H a = some (.lst vs) ∧ Reps K Z H ds vs
theorem OpdR.seen {o : Opd} {v : V} {u : T} (r : OpdR K Z H σ o v G) (er : EnvR K Z H env σ F) (e : o.tt env = some u) : Seen K Z H u v := by
  cases r with
  | t r => simp only [Opd.tt, Option.some.injEq] at e; subst e; exact .inl ⟨_, r⟩
  | @s i v h =>
    simp only [Opd.tt] at e
    split at e
    · rename_i t q
      simp only [Option.some.injEq] at e; subst e
      obtain ⟨v', Fi, h1, h2, _⟩ := er.at q
      rw [h] at h1; cases h1
      exact .inl ⟨_, h2⟩
    · cases e
  | @k d v r =>
    simp only [Opd.tt] at e
    split at e
    · rename_i hi
      simp only [Option.some.injEq] at e; subst e
      exact .inl ⟨[], .z (r.imm (fun _ _ z => z) hi)⟩
    · split at e
      · rename_i ds _
        split at e
        · rename_i hi
          simp only [Option.some.injEq] at e; subst e
          cases r with
          | lst h r => exact .inr ⟨_, ds, _, rfl, rfl, h, r.imm (fun _ _ z => z) hi⟩
        · cases e
      · cases e
theorem Seen.elsL {u : T} {v : V} {ds : List D} (r : Seen K Z H u v) (sub : ∀ a o, Z a = some o → H a = some o) (e : u.elsL = some ds) : ∃ a vs, v = .ref a ∧ H a = some (.lst vs) ∧ Reps K Z H ds vs := by
  rcases r with ⟨G, r⟩ | ⟨vs, ds', a, rfl, rfl, h, r⟩
  · cases r with
    | z r =>
      cases r <;> first | (simp [T.elsL] at e; done) | skip
      rename_i a vs ds' r h
      simp only [T.elsL, Option.some.injEq] at e; subst e
      exact ⟨_, _, rfl, sub _ _ r, h⟩
    | lst h r => exact ⟨_, _, rfl, h, zs_ok e r⟩
    | _ => simp [T.elsL] at e
  · simp only [T.elsL, zs_map, Option.some.injEq] at e; subst e
    exact ⟨_, _, rfl, h, r⟩
theorem Seen.elsK {u : T} {v : V} {ds : List D} (r : Seen K Z H u v) (sub : ∀ a o, Z a = some o → H a = some o) (e : u.elsK = some ds) : ∃ a vs, v = .ref a ∧ SqL K H a vs ∧ Reps K Z H ds vs := by
  rcases r with ⟨G, r⟩ | ⟨vs, ds', a, rfl, rfl, h, r⟩
  · cases r with
    | z r =>
      cases r <;> first | (simp [T.elsK] at e; done) | skip
      rename_i a vs ds' r h
      simp only [T.elsK, Option.some.injEq] at e; subst e
      exact ⟨_, _, rfl, SqL.mono sub r, h⟩
    | _ => simp [T.elsK] at e
  · simp [T.elsK] at e
theorem Seen.elsT {u : T} {v : V} {ds : List D} (r : Seen K Z H u v) (e : u.elsT = some ds) : ∃ a vs, v = .ref a ∧ H a = some (.tup vs) ∧ Reps K Z H ds vs := by
  rcases r with ⟨G, r⟩ | ⟨vs, ds', a, rfl, rfl, h, r⟩
  · cases r with
    | z r =>
      cases r <;> first | (simp [T.elsT] at e; done) | skip
      rename_i a vs ds' r h
      simp only [T.elsT, Option.some.injEq] at e; subst e
      exact ⟨_, _, rfl, r, h⟩
    | tup h r => exact ⟨_, _, rfl, h, zs_ok e r⟩
    | _ => simp [T.elsT] at e
  · simp [T.elsT] at e
end
end DL

/-! DL3: operators, subscripts, built-in functions. -/
namespace DL
open PySem PySem.Spec PyProof.Rows L2

section
variable {K : PySem.W.Frag} {Z H : Hp} {σ : L2.St}
theorem grow_upd {p : Addr} {o : HO} (h : H p = none) : Grow H (upd H p o) := fun a u e => by
  rw [upd_ne (ne_of_none e h)]; exact e
theorem Reps.grown {H' : Hp} {ds : List D} {vs : List V} (r : Reps K Z H ds vs) (g : Grow H H') : Reps K Z H' ds vs := r.mono (fun _ _ h => h) g.tt
theorem reps_z {ds : List D} {vs : List V} (r : Reps K Z H ds vs) : RepTs K Z H (ds.map .z) vs [] := by
  induction ds generalizing vs with
  | nil => cases r; exact .nil
  | cons d ds ih => cases r with | cons a b => exact RepTs.cons (F := []) (G := []) (.z a) (ih b)
theorem new_lst {p : Addr} {ds : List D} {vs : List V} (h : H p = none) (r : Reps K Z H ds vs) : OpdR K Z (upd H p (.lst vs)) σ (.t (.lst (ds.map .z))) (.ref p) [p] :=
  .t (.lst upd_same (reps_z (r.grown (grow_upd h))))
theorem new_tup {p : Addr} {ds : List D} {vs : List V} (h : H p = none) (r : Reps K Z H ds vs) : OpdR K Z (upd H p (.tup vs)) σ (.t (.z (.tup ds))) (.ref p) [] :=
  .t (.z (.tup upd_same (r.grown (grow_upd h))))
theorem fresh1 {p : Addr} (h : H p = none) : ∀ a ∈ [p], H a = none := fun a m => by
  rw [List.mem_singleton.mp m]; exact h
theorem Reps.append {ds ds' : List D} {vs vs' : List V} (r : Reps K Z H ds vs) (r' : Reps K Z H ds' vs') : Reps K Z H (ds ++ ds') (vs ++ vs') := by
  induction ds generalizing vs with
  | nil => cases r; exact r'
  | cons d ds ih => cases r with | cons a b => exact .cons a (ih b)
theorem OpdRs.two {a b : Opd} {xs : List V} {G : List Addr} (h : OpdRs K Z H σ [a, b] xs G) : ∃ x y A B, xs = [x, y] ∧ OpdR K Z H σ a x A ∧ OpdR K Z H σ b y B := by
  cases h with | cons r s => cases s with | cons r' s' => cases s'; exact ⟨_, _, _, _, rfl, r, r'⟩
theorem OpdRs.one {a : Opd} {xs : List V} {G : List Addr} (h : OpdRs K Z H σ [a] xs G) : ∃ x A, xs = [x] ∧ OpdR K Z H σ a x A := by
  cases h with | cons r s => cases s; exact ⟨_, _, rfl, r⟩
end
/-- a relation of two values as one of a list of them -/
abbrev R2L (r : R2) : List V → Hp → VK → Prop := fun xs H Q => r (xs.getD 0 .non) (xs.getD 1 .non) H Q

/-! ### + -/
@[simp] def oAdd (env : En) : List Opd → Option Opd
  | [a, b] => match a.rd env, b.rd env with
    | some (.int i), some (.int j) => some (.t (.z (.int (i + j))))
    | some (.str i), some (.str j) => if i.length + j.length ≤ sizeLine then some (.t (.z (.str (i ++ j)))) else none
    | some (.lst _), some (.lst _) => match a.tt env, b.tt env with
      | some u, some v => match u.elsL, v.elsL with
        | some xs, some ys => if xs.length + ys.length ≤ sizeLine then some (.t (.lst ((xs ++ ys).map .z))) else none
        | _, _ => none
      | _, _ => none
    | some (.tup _), some (.tup _) => match a.tt env, b.tt env with
      | some u, some v => match u.elsT, v.elsT with
        | some xs, some ys => if xs.length + ys.length ≤ sizeLine then some (.t (.z (.tup (xs ++ ys)))) else none
        | _, _ => none
      | _, _ => none
    | _, _ => none
  | _ => none
def rAddAny (K : PySem.W.Frag) : R2 := fun x y H Q => (∃ i j, x = .int i ∧ y = .int j ∧ Q (.int (i + j)) H) ∨ (∃ i j, x = .str i ∧ y = .str j ∧ i.length + j.length ≤ sizeLine ∧ Q (.str (i ++ j)) H) ∨ rCat x y H Q ∨ rCatA K x y H Q
theorem op_addAny {X : Cx} : OpR X (binaryOp .Add) (rAddAny X.K) := op_add.or (op_add_str.or (op_cat.or op_catA))
theorem link_add {K : PySem.W.Frag} : Link K oAdd (R2L (rAddAny K)) := by
  intro σ Z H F G env os xs o' Q ok er or ho hq
  unfold oAdd at ho
  split at ho
  · rename_i a b
    obtain ⟨x, y, A, B, rfl, ra, rb⟩ := or.two
    show rAddAny K x y H Q
    split at ho
    · rename_i i j e1 e2
      cases ho
      have h1 := (ra.look ok.sub er e1).v_int
      have h2 := (rb.look ok.sub er e2).v_int
      subst h1 h2
      exact .inl ⟨i, j, rfl, rfl, hq _ H [] (fun _ _ z => z) (fun _ z => nomatch z) List.nodup_nil (.t (.z .int))⟩
    · rename_i i j e1 e2
      split at ho
      · rename_i hl
        cases ho
        have h1 := (ra.look ok.sub er e1).v_str
        have h2 := (rb.look ok.sub er e2).v_str
        subst h1 h2
        exact .inr (.inl ⟨i, j, rfl, rfl, hl, hq _ H [] (fun _ _ z => z) (fun _ z => nomatch z) List.nodup_nil (.t (.z .str))⟩)
      · cases ho
    · split at ho
      · rename_i u v eu ev
        split at ho
        · rename_i xs ys ex ey
          split at ho
          · rename_i hl
            cases ho
            obtain ⟨p, vs, rfl, hp, r1⟩ := (ra.seen er eu).elsL ok.sub ex
            obtain ⟨q, ws, rfl, hq', r2⟩ := (rb.seen er ev).elsL ok.sub ey
            refine .inr (.inr (.inl ⟨p, q, vs, ws, rfl, rfl, hp, hq', by rw [← r1.length, ← r2.length]; exact hl, fun l hn => ?_⟩))
            exact hq _ _ [l] (grow_upd hn) (fresh1 hn) (by simp) (new_lst hn (r1.append r2))
          · cases ho
        · cases ho
      · cases ho
    · split at ho
      · rename_i u v eu ev
        split at ho
        · rename_i xs ys ex ey
          split at ho
          · rename_i hl
            cases ho
            obtain ⟨p, vs, rfl, hp, r1⟩ := (ra.seen er eu).elsT ex
            obtain ⟨q, ws, rfl, hq', r2⟩ := (rb.seen er ev).elsT ey
            refine .inr (.inr (.inr ⟨p, q, vs, ws, rfl, rfl, SqT.of hp, SqT.of hq', by rw [← r1.length, ← r2.length]; exact hl, fun e => ?_, fun _ e => ?_, fun _ _ l hn => ?_⟩))
            · subst e
              cases xs with
              | nil => exact hq _ H [] (fun _ _ z => z) (fun _ z => nomatch z) List.nodup_nil (.t (.z (.tup hq' (by simpa using r2))))
              | cons d ds => cases r1
            · subst e
              cases ys with
              | nil => exact hq _ H [] (fun _ _ z => z) (fun _ z => nomatch z) List.nodup_nil (.t (.z (.tup hp (by simpa using r1))))
              | cons d ds => cases r2
            · exact hq _ _ [] (grow_upd hn) (fun _ z => nomatch z) (by simp) (new_tup hn (r1.append r2))
          · cases ho
        · cases ho
      · cases ho
    · cases ho
  · cases ho

section
variable {X : Cx} {W : WX} {a b c : Expr} {pos : Pos} {p1 p2 p3 : Bool} {fa fb fc : EM Opd}
theorem pq_bin {op : Operator} {r : R2} {o : En → List Opd → Option Opd} (ho : OpR X (binaryOp op) r) (l : Link X.K o (R2L r)) (ha : PQ X W p1 a fa) (hb : PQ X W p2 b fb) :
    PQ X W (p1 && p2) (.BinOp a op b pos) (sO o (sCons p2 fa (sCons true fb sNil))) :=
  (pe_op ho ha hb).imp fun _ _ _ h => two_ok (o_ok l h)
theorem pq_un {op : UnaryOp} {r : V → Hp → VK → Prop} {o : En → List Opd → Option Opd} (ho : UnR X (unaryOp op) r) (l : Link X.K o (fun xs H Q => r (xs.getD 0 .non) H Q)) (ha : PQ X W p1 a fa) :
    PQ X W p1 (.UnaryOp op a pos) (sO o (sCons true fa sNil)) :=
  (pe_un ho ha).imp fun _ _ _ h => one_ok (o_ok l h)
theorem pq_cmp {op : CmpOp} {r : R2} {o : En → List Opd → Option Opd} (ho : OpR X (compareOp op) r) (l : Link X.K o (R2L r)) (ha : PQ X W p1 a fa) (hb : PQ X W p2 b fb) (hm : behindInMarks op b = false) :
    PQ X W (p1 && p2) (.Compare a [op] [b] pos) (sO o (sCons p2 fa (sCons true fb sNil))) :=
  (pe_cmpR ho ha hb hm).imp fun _ _ _ h => two_ok (o_ok l h)
end

/-! ### arithmetic of ints -/
@[simp] def gI (C : Int → Int → Bool) (g : Int → Int → D) : List D → Option D
  | [.int i, .int j] => if C i j = true then some (g i j) else none
  | _ => none
theorem link_I {K : PySem.W.Frag} {C : Int → Int → Bool} {P : Int → Int → Prop} {g : Int → Int → D} {g' : Int → Int → V} (hC : ∀ i j, C i j = true → P i j) (hg : ∀ i j, (g i j).v = g' i j) : Link K (oS (gI C g)) (R2L (rI P g')) := by
  refine link_S fun H xs ds d Q r e q => ?_
  unfold gI at e
  split at e
  · rename_i i j
    split at e
    · rename_i hc
      cases e
      obtain ⟨x, y, rfl, r1, r2⟩ := r.two
      have h1 := r1.v_int
      have h2 := r2.v_int
      subst h1 h2
      exact ⟨i, j, rfl, rfl, hC i j hc, by rw [← hg]; exact q⟩
    · cases e
  · cases e
theorem link_I0 {K : PySem.W.Frag} {g : Int → Int → D} {g' : Int → Int → V} (hg : ∀ i j, (g i j).v = g' i j) : Link K (oS (gI (fun _ _ => true) g)) (R2L (rI0 g')) := by
  refine link_S fun H xs ds d Q r e q => ?_
  unfold gI at e
  split at e
  · rename_i i j
    rw [if_pos rfl] at e
    cases e
    obtain ⟨x, y, rfl, r1, r2⟩ := r.two
    have h1 := r1.v_int
    have h2 := r2.v_int
    subst h1 h2
    exact ⟨i, j, rfl, rfl, by rw [← hg]; exact q⟩
  · cases e
abbrev oSub := oS (gI (fun _ _ => true) fun i j => .int (i - j))
theorem okMul_ex : ∃ f : Int → Int → Bool, ∀ i j, f i j = decide ((-(2 ^ 64) < i ∧ i < 2 ^ 64) ∨ (-(2 ^ 64) < j ∧ j < 2 ^ 64)) := ⟨_, fun _ _ => rfl⟩
/-- (chosen, so that the kernel never counts down from the bound) -/
noncomputable def okMul : Int → Int → Bool := okMul_ex.choose
theorem okMul_eq (i j : Int) : okMul i j = decide ((-(2 ^ 64) < i ∧ i < 2 ^ 64) ∨ (-(2 ^ 64) < j ∧ j < 2 ^ 64)) := okMul_ex.choose_spec i j
theorem inB_ex : ∃ f : Nat → Int → Bool, ∀ m j, f m j = decide (-(2 ^ m) ≤ j ∧ j < 2 ^ m) := ⟨_, fun _ _ => rfl⟩
noncomputable def inB : Nat → Int → Bool := inB_ex.choose
theorem inB_iff {m : Nat} {j : Int} : inB m j = true ↔ -(2 ^ m) ≤ j ∧ j < 2 ^ m := by
  rw [inB, inB_ex.choose_spec m j]
  exact decide_eq_true_iff
theorem inB_nat {m n : Nat} (h : (n : Int) < 2 ^ m) : inB m n = true := inB_iff.mpr ⟨Int.le_trans (Int.neg_nonpos_of_nonneg (Int.le_of_lt (Int.pow_pos (by decide)))) (Int.natCast_nonneg n), h⟩
abbrev oDiv := oS (gI (fun _ j => decide (0 < j ∧ j < 1073741824)) fun i j => .int (i / j))
abbrev oMod := oS (gI (fun _ j => decide (0 < j)) fun i j => .int (i % j))
abbrev oPow := oS (gI (fun i j => decide (0 ≤ j ∧ j ≤ 1000000 ∧ i.natAbs < 2 ^ 64)) fun i j => .int (i ^ j.toNat))
abbrev oLt := oS (gI (fun _ _ => true) fun i j => .bl (decide (i < j)))
abbrev oLe := oS (gI (fun _ _ => true) fun i j => .bl (decide (i ≤ j)))
abbrev oGt := oS (gI (fun _ _ => true) fun i j => .bl (decide (j < i)))
abbrev oGe := oS (gI (fun _ _ => true) fun i j => .bl (decide (j ≤ i)))
section
variable {X : Cx} {W : WX} {a b c : Expr} {pos : Pos} {p1 p2 p3 : Bool} {fa fb fc : EM Opd}
theorem pq_add (ha : PQ X W p1 a fa) (hb : PQ X W p2 b fb) : PQ X W (p1 && p2) (.BinOp a .Add b pos) (sO oAdd (sCons p2 fa (sCons true fb sNil))) := pq_bin op_addAny link_add ha hb
theorem pq_sub (ha : PQ X W p1 a fa) (hb : PQ X W p2 b fb) : PQ X W (p1 && p2) (.BinOp a .Sub b pos) (sO oSub (sCons p2 fa (sCons true fb sNil))) := pq_bin op_sub (link_I0 fun _ _ => rfl) ha hb
theorem pq_div (ha : PQ X W p1 a fa) (hb : PQ X W p2 b fb) : PQ X W (p1 && p2) (.BinOp a .FloorDiv b pos) (sO oDiv (sCons p2 fa (sCons true fb sNil))) := pq_bin op_fdiv (link_I (fun i j h => (of_decide_eq_true h : 0 < j ∧ j < 1073741824)) fun _ _ => rfl) ha hb
theorem pq_mod (ha : PQ X W p1 a fa) (hb : PQ X W p2 b fb) : PQ X W (p1 && p2) (.BinOp a .Mod b pos) (sO oMod (sCons p2 fa (sCons true fb sNil))) := pq_bin op_mod (link_I (fun i j h => of_decide_eq_true h) fun _ _ => rfl) ha hb
theorem pq_pow (ha : PQ X W p1 a fa) (hb : PQ X W p2 b fb) : PQ X W (p1 && p2) (.BinOp a .Pow b pos) (sO oPow (sCons p2 fa (sCons true fb sNil))) := pq_bin op_pow (link_I (fun i j h => (of_decide_eq_true h : 0 ≤ j ∧ j ≤ 1000000 ∧ i.natAbs < 2 ^ 64)) fun _ _ => rfl) ha hb
theorem pq_lt (ha : PQ X W p1 a fa) (hb : PQ X W p2 b fb) : PQ X W (p1 && p2) (.Compare a [.Lt] [b] pos) (sO oLt (sCons p2 fa (sCons true fb sNil))) := pq_cmp op_lt (link_I0 fun _ _ => rfl) ha hb (nomark _)
theorem pq_le (ha : PQ X W p1 a fa) (hb : PQ X W p2 b fb) : PQ X W (p1 && p2) (.Compare a [.LtE] [b] pos) (sO oLe (sCons p2 fa (sCons true fb sNil))) := pq_cmp op_le (link_I0 fun _ _ => rfl) ha hb (nomark _)
theorem pq_gt (ha : PQ X W p1 a fa) (hb : PQ X W p2 b fb) : PQ X W (p1 && p2) (.Compare a [.Gt] [b] pos) (sO oGt (sCons p2 fa (sCons true fb sNil))) := pq_cmp op_gt (link_I0 fun _ _ => rfl) ha hb (nomark _)
theorem pq_ge (ha : PQ X W p1 a fa) (hb : PQ X W p2 b fb) : PQ X W (p1 && p2) (.Compare a [.GtE] [b] pos) (sO oGe (sCons p2 fa (sCons true fb sNil))) := pq_cmp op_ge (link_I0 fun _ _ => rfl) ha hb (nomark _)
end

/-! ### * -/
@[simp] noncomputable def oMul (env : En) : List Opd → Option Opd
  | [a, b] => match a.rd env, b.rd env with
    | some (.int i), some (.int j) => if okMul i j = true then some (.t (.z (.int (i * j)))) else none
    | some (.lst _), some (.int k) => match a.tt env with
      | some u => match u.elsL with
        | some xs => if inB 63 k = true ∧ xs.length * k.toNat ≤ sizeLine then some (.t (.lst ((List.replicate k.toNat xs).flatten.map .z))) else none
        | _ => none
      | _ => none
    | _, _ => none
  | _ => none
def rMulAny : R2 := fun x y H Q => rI CMul (fun i j => .int (i * j)) x y H Q ∨ rRep x y H Q
theorem op_mulAny {X : Cx} : OpR X (binaryOp .Mult) rMulAny := op_mul.or op_rep
theorem Reps.rep {K : PySem.W.Frag} {Z H : Hp} {ds : List D} {vs : List V} (r : Reps K Z H ds vs) : ∀ n, Reps K Z H (List.replicate n ds).flatten (List.replicate n vs).flatten
  | 0 => .nil
  | n + 1 => by rw [List.replicate_succ, List.replicate_succ, List.flatten_cons, List.flatten_cons]; exact r.append (Reps.rep r n)
theorem link_mul {K : PySem.W.Frag} : Link K oMul (R2L rMulAny) := by
  intro σ Z H F G env os xs o' Q ok er or ho hq
  unfold oMul at ho
  split at ho
  · rename_i a b
    obtain ⟨x, y, A, B, rfl, ra, rb⟩ := or.two
    show rMulAny x y H Q
    split at ho
    · rename_i i j e1 e2
      split at ho
      · rename_i hc
        cases ho
        have h1 := (ra.look ok.sub er e1).v_int
        have h2 := (rb.look ok.sub er e2).v_int
        subst h1 h2
        exact .inl ⟨i, j, rfl, rfl, (of_decide_eq_true (by rw [← okMul_eq]; exact hc) : (-(2 ^ 64) < i ∧ i < 2 ^ 64) ∨ (-(2 ^ 64) < j ∧ j < 2 ^ 64)), hq _ H [] (fun _ _ z => z) (fun _ z => nomatch z) List.nodup_nil (.t (.z .int))⟩
      · cases ho
    · rename_i k e1 e2
      split at ho
      · rename_i u eu
        split at ho
        · rename_i xs ex
          split at ho
          · rename_i hl
            cases ho
            have h2 := (rb.look ok.sub er e2).v_int
            subst h2
            obtain ⟨p, vs, rfl, hp, r1⟩ := (ra.seen er eu).elsL ok.sub ex
            refine .inr ⟨p, k, vs, rfl, rfl, hp, (inB_iff.mp hl.1).1, (inB_iff.mp hl.1).2, by rw [← r1.length]; exact hl.2, fun l hn => ?_⟩
            exact hq _ _ [l] (grow_upd hn) (fresh1 hn) (by simp) (new_lst hn (r1.rep k.toNat))
          · cases ho
        · cases ho
      · cases ho
    · cases ho
  · cases ho
theorem pq_mul {X : Cx} {W : WX} {a b : Expr} {pos : Pos} {p1 p2 : Bool} {fa fb : EM Opd} (ha : PQ X W p1 a fa) (hb : PQ X W p2 b fb) : PQ X W (p1 && p2) (.BinOp a .Mult b pos) (sO oMul (sCons p2 fa (sCons true fb sNil))) := pq_bin op_mulAny link_mul ha hb
end DL

/-! DL4: subscripts, len, equality, tests. -/
namespace DL
open PySem PySem.Spec PyProof.Rows L2

/-! ### x[i] -/
theorem Reps.atI {K : PySem.W.Frag} {Z H : Hp} {ds : List D} {vs : List V} (r : Reps K Z H ds vs) {k : Int} {d : D} (e : atI ds k = some d) : ∃ v, L2.atI vs k = some v ∧ Rep K Z H d v := by
  unfold L2.atI at e ⊢
  rw [← r.length]
  cases q : ixN ds.length k with
  | none => rw [q] at e; cases e
  | some j => rw [q] at e; exact r.get e
theorem RepTs.get {K : PySem.W.Frag} {Z H : Hp} {ts : List T} {vs : List V} {F : List Addr} (r : RepTs K Z H ts vs F) : ∀ {j : Nat} {t : T}, ts[j]? = some t → ∃ v G, vs[j]? = some v ∧ RepT K Z H t v G := by
  induction ts generalizing vs F with
  | nil => intro j t e; simp at e
  | cons x xs ih =>
    cases r with
    | cons r s =>
      intro j t e
      cases j with
      | zero => simp at e; subst e; exact ⟨_, _, by simp, r⟩
      | succ j => simp at e; obtain ⟨v, G, h1, h2⟩ := ih s e; exact ⟨v, G, by simpa using h1, h2⟩
theorem RepTs.atI {K : PySem.W.Frag} {Z H : Hp} {ts : List T} {vs : List V} {F : List Addr} (r : RepTs K Z H ts vs F) {k : Int} {t : T} (e : L2.atI ts k = some t) : ∃ v G, L2.atI vs k = some v ∧ RepT K Z H t v G := by
  unfold L2.atI at e ⊢
  rw [← r.length]
  cases q : ixN ts.length k with
  | none => rw [q] at e; cases e
  | some j => rw [q] at e; exact r.get e
/-- an item as an operand -/
@[simp] def itD (d : D) : Opd := if d.imm = true then .t (.z d) else .k d
@[simp] def itT : T → Opd
  | .z d => .t (.z d)
  | t => .k t.er
def optO : Option Opd → Option Opd := id
@[simp] def ixT (u : T) (k : Int) : Option Opd := match u with
  | .z (.lst ds) => (atI ds k).map fun d => .t (.z d)
  | .z (.kls ds) => (atI ds k).map fun d => .t (.z d)
  | .z (.tup ds) => (atI ds k).map fun d => .t (.z d)
  | .z (.str x) => if x.length ≤ sizeLine then (atI x.cps.toList k).map fun c => .t (.z (.str ⟨#[c]⟩)) else none
  | .lst ts => (atI ts k).map itT
  | .tup ts => (atI ts k).map itT
  | _ => none
@[simp] def ixD (d : D) (k : Int) : Option Opd := match d with
  | .lst ds => (atI ds k).map itD
  | .kls ds => (atI ds k).map itD
  | .tup ds => (atI ds k).map itD
  | _ => none
@[simp] def oIx (env : En) : List Opd → Option Opd
  | [a, b] => match b.rd env with
    | some (.int k) => match a with
      | .k d => ixD d k
      | .t u => ixT u k
      | .s i => match env[i]? with
        | some (some u) => ixT u k
        | _ => none
    | _ => none
  | _ => none
section
variable {K : PySem.W.Frag} {Z H : Hp} {σ : L2.St} {v : V} {k : Int} {o' : Opd} {Q : VK}
theorem ixT_ok {u : T} {G : List Addr} (sub : ∀ a o, Z a = some o → H a = some o) (r : RepT K Z H u v G) (e : ixT u k = some o') (hq : ∀ v, OpdR K Z H σ o' v [] → Q v H) : rIx K v (.int k) H Q := by
  have itT_ok : ∀ {t : T} {v : V} {G : List Addr}, RepT K Z H t v G → OpdR K Z H σ (itT t) v [] := fun {t v G} r => by
    cases r with
    | z r => exact .t (.z r)
    | tup h r => exact .k (RepT.look (.tup h r) sub)
    | lst h r => exact .k (RepT.look (.lst h r) sub)
    | dic h n r => exact .k (RepT.look (.dic h n r) sub)
    | obj h n r => exact .k (RepT.look (.obj h n r) sub)
  unfold ixT at e
  split at e
  · rename_i ds
    cases r with
    | z r =>
      cases r with
      | lst h r =>
        obtain ⟨d, e1, e2⟩ := Option.map_eq_some_iff.mp e
        subst e2
        obtain ⟨w, h1, h2⟩ := r.atI e1
        exact .inl ⟨_, _, k, w, rfl, rfl, SqL.of (sub _ _ h), h1, hq w (.t (.z h2))⟩
  · rename_i ds
    cases r with
    | z r =>
      cases r with
      | kls h r =>
        obtain ⟨d, e1, e2⟩ := Option.map_eq_some_iff.mp e
        subst e2
        obtain ⟨w, h1, h2⟩ := r.atI e1
        exact .inl ⟨_, _, k, w, rfl, rfl, SqL.mono sub h, h1, hq w (.t (.z h2))⟩
  · rename_i ds
    cases r with
    | z r =>
      cases r with
      | tup h r =>
        obtain ⟨d, e1, e2⟩ := Option.map_eq_some_iff.mp e
        subst e2
        obtain ⟨w, h1, h2⟩ := r.atI e1
        exact .inr (.inl ⟨_, _, k, w, rfl, rfl, SqT.of h, h1, hq w (.t (.z h2))⟩)
  · rename_i x
    split at e
    · rename_i hl
      cases r with
      | z r =>
        obtain ⟨c, e1, e2⟩ := Option.map_eq_some_iff.mp e
        subst e2
        have := r.v_str
        subst this
        exact .inr (.inr ⟨x, k, c, rfl, rfl, hl, e1, hq _ (.t (.z .str))⟩)
    · cases e
  · rename_i ts
    cases r with
    | lst h r =>
      obtain ⟨t, e1, e2⟩ := Option.map_eq_some_iff.mp e
      subst e2
      obtain ⟨w, G, h1, h2⟩ := r.atI e1
      exact .inl ⟨_, _, k, w, rfl, rfl, SqL.of h, h1, hq w (itT_ok h2)⟩
  · rename_i ts
    cases r with
    | tup h r =>
      obtain ⟨t, e1, e2⟩ := Option.map_eq_some_iff.mp e
      subst e2
      obtain ⟨w, G, h1, h2⟩ := r.atI e1
      exact .inr (.inl ⟨_, _, k, w, rfl, rfl, SqT.of h, h1, hq w (itT_ok h2)⟩)
  · cases e
theorem itD_ok {d : D} (r : Rep K H H d v) : OpdR K Z H σ (itD d) v [] := by
  unfold itD
  split
  · rename_i h; exact .t (.z (r.imm (fun _ _ z => z) h))
  · exact .k r
theorem ixD_ok {d : D} (r : Rep K H H d v) (e : ixD d k = some o') (hq : ∀ v, OpdR K Z H σ o' v [] → Q v H) : rIx K v (.int k) H Q := by
  unfold ixD at e
  split at e
  · cases r with
    | lst h r =>
      obtain ⟨d, e1, e2⟩ := Option.map_eq_some_iff.mp e
      subst e2
      obtain ⟨w, h1, h2⟩ := r.atI e1
      exact .inl ⟨_, _, k, w, rfl, rfl, SqL.of h, h1, hq w (itD_ok h2)⟩
  · cases r with
    | kls h r =>
      obtain ⟨d, e1, e2⟩ := Option.map_eq_some_iff.mp e
      subst e2
      obtain ⟨w, h1, h2⟩ := r.atI e1
      exact .inl ⟨_, _, k, w, rfl, rfl, h, h1, hq w (itD_ok h2)⟩
  · cases r with
    | tup h r =>
      obtain ⟨d, e1, e2⟩ := Option.map_eq_some_iff.mp e
      subst e2
      obtain ⟨w, h1, h2⟩ := r.atI e1
      exact .inr (.inl ⟨_, _, k, w, rfl, rfl, SqT.of h, h1, hq w (itD_ok h2)⟩)
  · cases e
end
theorem link_ix {K : PySem.W.Frag} : Link K oIx (R2L (rIx K)) := by
  intro σ Z H F G env os xs o' Q ok er or ho hq
  unfold oIx at ho
  split at ho
  · rename_i a b
    obtain ⟨x, y, A, B, rfl, ra, rb⟩ := or.two
    show rIx K x y H Q
    have fin : ∀ v, OpdR K Z H σ o' v [] → Q v H := fun v r => hq v H [] (fun _ _ z => z) (fun _ z => nomatch z) List.nodup_nil r
    split at ho
    · rename_i k e2
      have h2 := (rb.look ok.sub er e2).v_int
      subst h2
      split at ho
      · rename_i d
        cases ra with
        | k r => exact ixD_ok r ho fin
      · rename_i u
        cases ra with
        | t r => exact ixT_ok ok.sub r ho fin
      · rename_i i
        split at ho
        · rename_i u q
          cases ra with
          | s h =>
            obtain ⟨v', Fi, h1, h2, _⟩ := er.at q
            rw [h] at h1; cases h1
            exact ixT_ok ok.sub h2 ho fin
        · cases ho
    · cases ho
  · cases ho
theorem pq_ix {X : Cx} {W : WX} {a b : Expr} {pos : Pos} {p1 p2 : Bool} {fa fb : EM Opd} (ha : PQ X W p1 a fa) (hb : PQ X W p2 b fb) (hs : PlainIx b := by exact fun _ _ => rfl) :
    PQ X W (p1 && p2) (.Subscript a b pos) (sO oIx (sCons p2 fa (sCons true fb sNil))) :=
  (pe_ix ix_seq ha hb hs).imp fun _ _ _ h => two_ok (o_ok link_ix h)

/-! ### len -/
@[simp] def gLen : List D → Option D
  | [.lst ds] => some (.int ds.length)
  | [.kls ds] => some (.int ds.length)
  | [.tup ds] => some (.int ds.length)
  | [.str x] => if x.length ≤ sizeLine then some (.int x.length) else none
  | _ => none
theorem link_len {K : PySem.W.Frag} : Link K (oS gLen) (fun xs H Q => ∃ x n, xs = [x] ∧ LenV K x H n ∧ Q (.int n) H) := by
  refine link_S fun H xs ds d Q r e q => ?_
  unfold gLen at e
  split at e
  · obtain ⟨x, rfl, r1⟩ := r.one
    cases e
    cases r1 with | lst h r2 => exact ⟨_, _, rfl, .inl ⟨_, SqL.of h, r2.length⟩, q⟩
  · obtain ⟨x, rfl, r1⟩ := r.one
    cases e
    cases r1 with | kls h r2 => exact ⟨_, _, rfl, .inl ⟨_, h, r2.length⟩, q⟩
  · obtain ⟨x, rfl, r1⟩ := r.one
    cases e
    cases r1 with | tup h r2 => exact ⟨_, _, rfl, .inr ⟨_, SqT.of h, r2.length⟩, q⟩
  · rename_i z
    split at e
    · rename_i hl
      obtain ⟨x, rfl, r1⟩ := r.one
      cases e
      have := r1.v_str
      subst this
      exact ⟨_, _, rfl, ⟨hl, rfl⟩, q⟩
    · cases e
  · cases e
section
variable {X : Cx} {W : WX} {e : Expr} {es : List Expr} {p pos : Pos} {x : Str} {id : String} {T : String} {pp : Bool} {fr : EM (List Opd)} {r : List V → Hp → VK → Prop} {o : En → List Opd → Option Opd}
/-- a built-in function -/
theorem pq_blt (hc : CallR X (.builtin id) r) (l : Link X.K o r) (hg : Gl X x) (hm : X.mg x = none) (hv : bootBuiltins x = some (.builtin id)) (ha : PAQ X W pp (e :: es) fr) (hn : x ≠ "__name__" := by decide) (hdb : (x == ("__debug__" : Str)) = false := by decide)
    (he : starEach (e :: es) X.env = (false, eval e X.env) :: starEach es X.env := by rfl) (hpl : (backTo pos (starEach es X.env)).any (·.1) = false := by rfl) :
    PQ X W pp (.Call (.Name x p) (e :: es) [] pos) (sO o fr) :=
  (pe_callB hc hg hm hv ha hn hdb he hpl).imp fun _ _ _ h => o_ok l h
theorem pq_bty (hc : CallR X (.type T) r) (l : Link X.K o r) (hg : Gl X x) (hm : X.mg x = none) (hv : bootBuiltins x = some (.type T)) (ha : PAQ X W pp (e :: es) fr) (hn : x ≠ "__name__" := by decide) (hdb : (x == ("__debug__" : Str)) = false := by decide)
    (he : starEach (e :: es) X.env = (false, eval e X.env) :: starEach es X.env := by rfl) (hpl : (backTo pos (starEach es X.env)).any (·.1) = false := by rfl) :
    PQ X W pp (.Call (.Name x p) (e :: es) [] pos) (sO o fr) :=
  (pe_callTy hc hg hm hv ha hn hdb he hpl).imp fun _ _ _ h => o_ok l h
theorem pq_len (hg : Gl X "len") (hm : X.mg "len" = none) (ha : PAQ X W pp (e :: es) fr) (he : starEach (e :: es) X.env = (false, eval e X.env) :: starEach es X.env := by rfl) (hpl : (backTo pos (starEach es X.env)).any (·.1) = false := by rfl) :
    PQ X W pp (.Call (.Name "len" p) (e :: es) [] pos) (sO (oS gLen) fr) :=
  pq_blt call_len link_len hg hm PySem.boot_len ha (by decide) (by decide) he hpl
end

/-! ### int(x), max, min -/
@[simp] def gInt : List D → Option D
  | [.int i] => some (.int i)
  | [.bl b] => some (.int (if b then 1 else 0))
  | _ => none
theorem link_int {K : PySem.W.Frag} : Link K (oS gInt) (fun xs H Q => (∃ i, xs = [.int i] ∧ Q (.int i) H) ∨ ∃ k, xs = [.bl k] ∧ Q (.int (if k then 1 else 0)) H) := by
  refine link_S fun H xs ds d Q r e q => ?_
  unfold gInt at e
  split at e
  · obtain ⟨x, rfl, r1⟩ := r.one
    cases e
    have := r1.v_int; subst this
    exact .inl ⟨_, rfl, q⟩
  · obtain ⟨x, rfl, r1⟩ := r.one
    cases e
    have := r1.v_bl; subst this
    exact .inr ⟨_, rfl, q⟩
  · cases e
theorem link_2I {K : PySem.W.Frag} {g : Int → Int → D} {g' : Int → Int → V} (hg : ∀ i j, (g i j).v = g' i j) : Link K (oS (gI (fun _ _ => true) g)) (fun xs H Q => ∃ i j, xs = [.int i, .int j] ∧ Q (g' i j) H) := by
  refine link_S fun H xs ds d Q r e q => ?_
  unfold gI at e
  split at e
  · rename_i i j
    rw [if_pos rfl] at e
    cases e
    obtain ⟨x, y, rfl, r1, r2⟩ := r.two
    have h1 := r1.v_int
    have h2 := r2.v_int
    subst h1 h2
    exact ⟨i, j, rfl, by rw [← hg]; exact q⟩
  · cases e
abbrev oMax2 := oS (gI (fun _ _ => true) fun i j => .int (if j > i then j else i))
abbrev oMin2 := oS (gI (fun _ _ => true) fun i j => .int (if j < i then j else i))

/-! ### data compared -/
mutual
def D.py : D → PyData
  | .non => .none
  | .bl b => .bool b
  | .int i => .int i
  | .str x => .str x
  | .tup xs => .tuple (D.pys xs)
  | .lst xs => .list (D.pys xs)
  | .kls xs => .list (D.pys xs)
  | .ref _ => .dict []
  | .ty _ => .dict []
  | .dic _ _ _ => .dict []
  | .obj _ _ _ => .dict []
  | .exv _ _ _ _ _ => .dict []
def D.pys : List D → List PyData
  | [] => []
  | x :: xs => x.py :: D.pys xs
end
mutual
/-- plain, and at most n deep -/
@[simp] def D.shd : Nat → D → Bool
  | _, .non => true
  | _, .bl _ => true
  | _, .int _ => true
  | _, .str x => PyData.canLay0 (.str x)
  | n, .tup xs => match n with
    | 0 => false
    | n + 1 => D.shds n xs
  | n, .lst xs => match n with
    | 0 => false
    | n + 1 => D.shds n xs
  | n, .kls xs => match n with
    | 0 => false
    | n + 1 => D.shds n xs
  | _, .ref _ => false
  | _, .ty _ => false
  | _, .dic _ _ _ => false
  | _, .obj _ _ _ => false
  | _, .exv _ _ _ _ _ => false
@[simp] def D.shds : Nat → List D → Bool
  | _, [] => true
  | n, x :: xs => D.shd n x && D.shds n xs
end
theorem shds_all (n : Nat) (xs : List D) : D.shds n xs = xs.all (D.shd n) := by
  induction xs with
  | nil => simp [D.shds]
  | cons t ts ih => simp [D.shds, ih]
theorem pys_map (xs : List D) : D.pys xs = xs.map D.py := by
  induction xs with
  | nil => rfl
  | cons t ts ih => simp [D.pys, ih]
mutual
theorem shd_lay : ∀ (n : Nat) (d : D), d.shd n = true → PyData.canLay0 d.py = true ∧ d.py.depth ≤ n
  | _, .non, _ => by simp [D.py, PyData.canLay0, PyData.depth]
  | _, .bl _, _ => by simp [D.py, PyData.canLay0, PyData.depth]
  | _, .int _, _ => by simp [D.py, PyData.canLay0, PyData.depth]
  | _, .str x, h => by rw [D.shd] at h; exact ⟨by simpa [D.py] using h, by simp [D.py, PyData.depth]⟩
  | 0, .tup xs, h => by simp [D.shd] at h
  | n + 1, .tup xs, h => by
    have := shds_lay n xs (by simpa [D.shd] using h)
    simp only [D.py, PyData.canLay0, PyData.depth]
    exact ⟨this.1, by omega⟩
  | 0, .lst xs, h => by simp [D.shd] at h
  | n + 1, .lst xs, h => by
    have := shds_lay n xs (by simpa [D.shd] using h)
    simp only [D.py, PyData.canLay0, PyData.depth]
    exact ⟨this.1, by omega⟩
  | 0, .kls xs, h => by simp [D.shd] at h
  | n + 1, .kls xs, h => by
    have := shds_lay n xs (by simpa [D.shd] using h)
    simp only [D.py, PyData.canLay0, PyData.depth]
    exact ⟨this.1, by omega⟩
  | _, .ref _, h => by simp [D.shd] at h
  | _, .ty _, h => by simp [D.shd] at h
  | _, .dic _ _ _, h => by simp [D.shd] at h
  | _, .obj _ _ _, h => by simp [D.shd] at h
  | _, .exv _ _ _ _ _, h => by simp [D.shd] at h
theorem shds_lay : ∀ (n : Nat) (ds : List D), D.shds n ds = true → PyData.canLayAll0 (D.pys ds) = true ∧ PyData.depthAll (D.pys ds) ≤ n
  | _, [], _ => by simp [D.pys, PyData.canLayAll0, PyData.depthAll]
  | n, d :: ds, h => by
    simp only [D.shds, Bool.and_eq_true] at h
    have h1 := shd_lay n d h.1
    have h2 := shds_lay n ds h.2
    simp only [D.pys, PyData.canLayAll0, PyData.depthAll, h1.1, h2.1, Bool.and_self, true_and]
    omega
end
mutual
theorem Rep.dp {K : PySem.W.Frag} {H : Hp} : ∀ {n : Nat} {d : D} {v : V}, Rep K H H d v → d.shd n = true → Dp K H v d.py
  | _, _, _, .non, _ => .non
  | _, _, _, .bl, _ => .bl _
  | _, _, _, .int, _ => .int _
  | _, _, _, .str, _ => .str _
  | 0, _, _, .tup h r, e => by simp [D.shd] at e
  | n + 1, _, _, .tup h r, e => .tup (SqT.of h) (Reps.dp (n := n) r (by simpa [D.shd] using e))
  | 0, _, _, .lst h r, e => by simp [D.shd] at e
  | n + 1, _, _, .lst h r, e => .lst (SqL.of h) (Reps.dp (n := n) r (by simpa [D.shd] using e))
  | 0, _, _, .kls h r, e => by simp [D.shd] at e
  | n + 1, _, _, .kls h r, e => .lst h (Reps.dp (n := n) r (by simpa [D.shd] using e))
  | _, _, _, .ref, e => by simp [D.shd] at e
  | _, _, _, .ty, e => by simp [D.shd] at e
  | _, _, _, .dic _ _ _, e => by simp [D.shd] at e
  | _, _, _, .obj _ _ _, e => by simp [D.shd] at e
  | _, _, _, .exv _ _ _, e => by simp [D.shd] at e
theorem Reps.dp {K : PySem.W.Frag} {H : Hp} : ∀ {n : Nat} {d : List D} {v : List V}, Reps K H H d v → D.shds n d = true → DpAll K H v (D.pys d)
  | _, _, _, .nil, _ => .nil
  | n, _, _, .cons r s, e => by
    simp only [D.shds, Bool.and_eq_true] at e
    exact .cons (r.dp e.1) (s.dp e.2)
end
def deq (a b : D) : Bool := PyData.eqv a.py b.py
@[simp] def gEq : List D → Option D
  | [a, b] => if (a.shd 60 && b.shd 60) = true then some (.bl (deq a b)) else none
  | _ => none
@[simp] def gNe : List D → Option D
  | [a, b] => if (a.shd 60 && b.shd 60) = true then some (.bl (!deq a b)) else none
  | _ => none
theorem shd_shaped {d : D} (h : d.shd 60 = true) : SeqAt.shaped d.py = true := by
  obtain ⟨h1, h2⟩ := shd_lay 60 d h
  unfold SeqAt.shaped
  rw [h1, Bool.true_and]
  exact decide_eq_true (by omega)
theorem link_eq {K : PySem.W.Frag} : Link K (oS gEq) (R2L (rEqD K)) := by
  refine link_S fun H xs ds d Q r e q => ?_
  unfold gEq at e
  split at e
  · split at e
    · rename_i h
      simp only [Bool.and_eq_true] at h
      cases e
      obtain ⟨x, y, rfl, r1, r2⟩ := r.two
      exact ⟨_, _, r1.dp h.1, r2.dp h.2, shd_shaped h.1, shd_shaped h.2, q⟩
    · cases e
  · cases e
theorem link_ne {K : PySem.W.Frag} : Link K (oS gNe) (R2L (rNeD K)) := by
  refine link_S fun H xs ds d Q r e q => ?_
  unfold gNe at e
  split at e
  · split at e
    · rename_i h
      simp only [Bool.and_eq_true] at h
      cases e
      obtain ⟨x, y, rfl, r1, r2⟩ := r.two
      exact ⟨_, _, r1.dp h.1, r2.dp h.2, shd_shaped h.1, shd_shaped h.2, q⟩
    · cases e
  · cases e
section
variable {X : Cx} {W : WX} {a b : Expr} {pos : Pos} {p1 p2 : Bool} {fa fb : EM Opd} {k : Nat}
theorem pq_eq (hr : Room k X.A) (ha : PQ X W p1 a fa) (hb : PQ X W p2 b fb) : PQ X W (p1 && p2) (.Compare a [.Eq] [b] pos) (sO (oS gEq) (sCons p2 fa (sCons true fb sNil))) := pq_cmp (op_eqD hr.units) link_eq ha hb (nomark _)
theorem pq_ne (hr : Room k X.A) (ha : PQ X W p1 a fa) (hb : PQ X W p2 b fb) : PQ X W (p1 && p2) (.Compare a [.NotEq] [b] pos) (sO (oS gNe) (sCons p2 fa (sCons true fb sNil))) := pq_cmp (op_neD hr.units) link_ne ha hb (nomark _)
end

/-! ### is -/
@[simp] def gIs : List D → Option D
  | [.bl a, .bl b] => some (.bl (decide (a = b)))
  | [.non, .non] => some (.bl true)
  | [.bl _, .non] => some (.bl false)
  | [.int _, .non] => some (.bl false)
  | [.str _, .non] => some (.bl false)
  | [.tup _, .non] => some (.bl false)
  | [.lst _, .non] => some (.bl false)
  | [.kls _, .non] => some (.bl false)
  | [.dic _ _ _, .non] => some (.bl false)
  | [.obj _ _ _, .non] => some (.bl false)
  | _ => none
@[simp] def gIsN : List D → Option D := fun ds => match gIs ds with
  | some (.bl b) => some (.bl (!b))
  | _ => none
def rIsAny : R2 := fun x y H Q => rIsB x y H Q ∨ (y = .non ∧ Q (.bl (decide (x = .non))) H)
def rIsNAny : R2 := fun x y H Q => rNotB x y H Q ∨ (y = .non ∧ Q (.bl (!decide (x = .non))) H)
theorem gIs_ok {K : PySem.W.Frag} {H : Hp} {x y : V} {a b : D} {k : Bool} (r1 : Rep K H H a x) (r2 : Rep K H H b y) (e : gIs [a, b] = some (.bl k)) :
    (∃ a b : Bool, x = .bl a ∧ y = .bl b ∧ k = decide (a = b)) ∨ (y = .non ∧ k = decide (x = .non)) := by
  unfold gIs at e
  split at e <;> first | (cases e; done) | skip
  all_goals rename_i he
  · cases he; cases e; cases r1; cases r2; exact .inl ⟨_, _, rfl, rfl, rfl⟩
  all_goals (cases he; cases e; cases r1; cases r2; exact .inr ⟨rfl, by simp⟩)
theorem gIs_bl {ds : List D} {d : D} (e : gIs ds = some d) : ∃ k, d = .bl k := by
  unfold gIs at e
  split at e <;> first | (cases e; done) | (cases e; exact ⟨_, rfl⟩)
theorem link_is {K : PySem.W.Frag} : Link K (oS gIs) (R2L rIsAny) := by
  refine link_S fun H xs ds d Q r e q => ?_
  obtain ⟨k, rfl⟩ := gIs_bl e
  match ds, r, e with
  | [a, b], r, e =>
    obtain ⟨x, y, rfl, r1, r2⟩ := r.two
    rcases gIs_ok r1 r2 e with ⟨a, b, rfl, rfl, rfl⟩ | ⟨rfl, rfl⟩
    · exact .inl ⟨a, b, rfl, rfl, q⟩
    · exact .inr ⟨rfl, q⟩
  | [], _, e => simp [gIs] at e
  | [_], _, e => simp [gIs] at e
  | _ :: _ :: _ :: _, _, e => simp [gIs] at e
theorem link_isN {K : PySem.W.Frag} : Link K (oS gIsN) (R2L rIsNAny) := by
  refine link_S fun H xs ds d Q r e q => ?_
  unfold gIsN at e
  split at e
  · rename_i k e'
    cases e
    match ds, r, e' with
    | [a, b], r, e =>
      obtain ⟨x, y, rfl, r1, r2⟩ := r.two
      rcases gIs_ok r1 r2 e with ⟨a, b, rfl, rfl, rfl⟩ | ⟨rfl, rfl⟩
      · exact .inl ⟨a, b, rfl, rfl, q⟩
      · exact .inr ⟨rfl, q⟩
    | [], _, e => simp [gIs] at e
    | [_], _, e => simp [gIs] at e
    | _ :: _ :: _ :: _, _, e => simp [gIs] at e
  · cases e
section
variable {X : Cx} {W : WX} {a b : Expr} {pos : Pos} {p1 p2 : Bool} {fa fb : EM Opd}
theorem pq_is (ha : PQ X W p1 a fa) (hb : PQ X W p2 b fb) : PQ X W (p1 && p2) (.Compare a [.Is] [b] pos) (sO (oS gIs) (sCons p2 fa (sCons true fb sNil))) := pq_cmp (op_isBl.or op_isN) link_is ha hb (nomark _)
theorem pq_isN (ha : PQ X W p1 a fa) (hb : PQ X W p2 b fb) : PQ X W (p1 && p2) (.Compare a [.IsNot] [b] pos) (sO (oS gIsN) (sCons p2 fa (sCons true fb sNil))) := pq_cmp (op_notBl.or op_notN) link_isN ha hb (nomark _)
end
end DL

/-! DL5: tests, and, or, not, if-else. -/
namespace DL
open PySem PySem.Spec PyProof.Rows L2

abbrev PWQ (X : Cx) (W : WX) (p : Bool) (e : Expr) (f : EM Bool) : Prop := PW X e (tTQ X.K W p f)
theorem _root_.L2.PW.imp {X : Cx} {e : Expr} {t t' : TT} (h : PW X e t) (i : ∀ σ H Q, t' σ H Q → t σ H Q) : PW X e t' := ⟨fun wh pins s σ H Q I q => h.run wh pins s σ H Q I (i σ H Q q)⟩
/-- a truth value as a test -/
def sTb (f : EM Opd) : EM Bool := fun env => match f env with
  | none => none
  | some (.ex x e) => some (.ex x e)
  | some (.ok o e) => match o.rd e with
    | some (.bl b) => some (.ok b e)
    | _ => none
@[simp] def gTru : D → Option Bool
  | .non => some false
  | .bl b => some b
  | .int i => some (i != 0)
  | .str x => if x.length ≤ sizeLine then some ((x.length : Int) != 0) else none
  | .lst xs => some (!xs.isEmpty)
  | .kls xs => some (!xs.isEmpty)
  | .tup xs => some (!xs.isEmpty)
  | _ => none
def sTr (f : EM Opd) : EM Bool := fun env => match f env with
  | none => none
  | some (.ex x e) => some (.ex x e)
  | some (.ok o e) => match o.rd e with
    | none => none
    | some d => match gTru d with
      | none => none
      | some b => some (.ok b e)
section
variable {K : PySem.W.Frag} {W : WX} {σ : L2.St} {H : Hp}
theorem reps_empty {Z : Hp} {ds : List D} {vs : List V} (r : Reps K Z H ds vs) : (!vs.isEmpty) = !ds.isEmpty := by
  cases r <;> rfl
theorem gTru_ok {d : D} {v : V} {b : Bool} (r : Rep K H H d v) (e : gTru d = some b) : TruV K v H b := by
  cases r <;> simp only [gTru] at e <;> first | (cases e; rfl) | skip
  · split at e
    · rename_i h; cases e; exact ⟨h, rfl⟩
    · cases e
  · cases e
  · cases e
  · rename_i r h; cases e; exact .inr (.inl ⟨_, SqT.of r, by rw [reps_empty h]⟩)
  · rename_i r h; cases e; exact .inl ⟨_, SqL.of r, by rw [reps_empty h]⟩
  · rename_i r h; cases e; exact .inl ⟨_, r, by rw [reps_empty h]⟩
  all_goals cases e
theorem tr_ok {p : Bool} {f : EM Opd} {Q : Bool → Hp → Prop} (h : tTQ K W p (sTr f) σ H Q) : tQ K W p f σ H fun x H' => ∃ k, TruV K x H' k ∧ Q k H' := by
  obtain ⟨Z, env, F, ok, er, r, hr, post⟩ := h
  unfold sTr at hr
  split at hr
  · cases hr
  · rename_i x e hf
    cases hr
    exact ⟨Z, env, F, ok, er, _, hf, post⟩
  · rename_i o e hf
    split at hr
    · cases hr
    · rename_i d hd
      split at hr
      · cases hr
      · rename_i b hb
        cases hr
        refine ⟨Z, env, F, ok, er, _, hf, fun v H' Z' F' G x1 ok1 er1 or1 pp => ⟨b, gTru_ok (or1.look ok1.sub er1 hd) hb, ?_⟩⟩
        exact post H' Z' F' (x1.sub fun a ha => List.mem_append_left _ ha) ok1.left er1 pp
theorem tb_ok {p : Bool} {f : EM Opd} {Q : Bool → Hp → Prop} (h : tTQ K W p (sTb f) σ H Q) : tQ K W p f σ H fun x H' => ∃ k, x = .bl k ∧ Q k H' := by
  obtain ⟨Z, env, F, ok, er, r, hr, post⟩ := h
  unfold sTb at hr
  split at hr
  · cases hr
  · rename_i x e hf
    cases hr
    exact ⟨Z, env, F, ok, er, _, hf, post⟩
  · rename_i o e hf
    split at hr
    · rename_i b hd
      cases hr
      refine ⟨Z, env, F, ok, er, _, hf, fun v H' Z' F' G x1 ok1 er1 or1 pp => ⟨b, (or1.look ok1.sub er1 hd).v_bl, ?_⟩⟩
      exact post H' Z' F' (x1.sub fun a ha => List.mem_append_left _ ha) ok1.left er1 pp
    · cases hr
end
section
variable {X : Cx} {W : WX} {a b c : Expr} {rest : List Expr} {pos : Pos} {p p1 p2 p3 : Bool} {fa fb fc : EM Opd} {ta tb tc : EM Bool}
theorem ptq_tr (h : PQ X W p a fa) (he : ∀ whole, isTrue a X.env whole = (do let v ← whole; standAt a.pos; holding [v] (truthy v)) := by intro _; rfl) : PTQ X W p a (sTr fa) :=
  (pt_truth h he).imp fun _ _ _ h => tr_ok h
theorem ptq_cmp {op : CmpOp} {r : R2} {o : En → List Opd → Option Opd} (ho : OpR X (compareOp op) r) (l : Link X.K o (R2L r)) (ha : PQ X W p1 a fa) (hb : PQ X W p2 b fb) (hm : behindInMarks op b = false) :
    PTQ X W (p1 && p2) (.Compare a [op] [b] pos) (sTb (sO o (sCons p2 fa (sCons true fb sNil)))) :=
  (pt_cmpR ho ha hb hm).imp fun _ _ _ h => two_ok (o_ok l (tb_ok h))
/-! comparisons as tests -/
theorem ptq_lt (ha : PQ X W p1 a fa) (hb : PQ X W p2 b fb) : PTQ X W (p1 && p2) (.Compare a [.Lt] [b] pos) (sTb (sO oLt (sCons p2 fa (sCons true fb sNil)))) := ptq_cmp op_lt (link_I0 fun _ _ => rfl) ha hb (nomark _)
theorem ptq_le (ha : PQ X W p1 a fa) (hb : PQ X W p2 b fb) : PTQ X W (p1 && p2) (.Compare a [.LtE] [b] pos) (sTb (sO oLe (sCons p2 fa (sCons true fb sNil)))) := ptq_cmp op_le (link_I0 fun _ _ => rfl) ha hb (nomark _)
theorem ptq_gt (ha : PQ X W p1 a fa) (hb : PQ X W p2 b fb) : PTQ X W (p1 && p2) (.Compare a [.Gt] [b] pos) (sTb (sO oGt (sCons p2 fa (sCons true fb sNil)))) := ptq_cmp op_gt (link_I0 fun _ _ => rfl) ha hb (nomark _)
theorem ptq_ge (ha : PQ X W p1 a fa) (hb : PQ X W p2 b fb) : PTQ X W (p1 && p2) (.Compare a [.GtE] [b] pos) (sTb (sO oGe (sCons p2 fa (sCons true fb sNil)))) := ptq_cmp op_ge (link_I0 fun _ _ => rfl) ha hb (nomark _)
theorem ptq_eq {k : Nat} (hr : Room k X.A) (ha : PQ X W p1 a fa) (hb : PQ X W p2 b fb) : PTQ X W (p1 && p2) (.Compare a [.Eq] [b] pos) (sTb (sO (oS gEq) (sCons p2 fa (sCons true fb sNil)))) := ptq_cmp (op_eqD hr.units) link_eq ha hb (nomark _)
theorem ptq_ne {k : Nat} (hr : Room k X.A) (ha : PQ X W p1 a fa) (hb : PQ X W p2 b fb) : PTQ X W (p1 && p2) (.Compare a [.NotEq] [b] pos) (sTb (sO (oS gNe) (sCons p2 fa (sCons true fb sNil)))) := ptq_cmp (op_neD hr.units) link_ne ha hb (nomark _)
theorem ptq_is (ha : PQ X W p1 a fa) (hb : PQ X W p2 b fb) : PTQ X W (p1 && p2) (.Compare a [.Is] [b] pos) (sTb (sO (oS gIs) (sCons p2 fa (sCons true fb sNil)))) := ptq_cmp (op_isBl.or op_isN) link_is ha hb (nomark _)
theorem ptq_isN (ha : PQ X W p1 a fa) (hb : PQ X W p2 b fb) : PTQ X W (p1 && p2) (.Compare a [.IsNot] [b] pos) (sTb (sO (oS gIsN) (sCons p2 fa (sCons true fb sNil)))) := ptq_cmp (op_notBl.or op_notN) link_isN ha hb (nomark _)
end

/-! ### and, or, not as tests -/
def sAnd (fa fb : EM Bool) : EM Bool := fun env => match fa env with
  | some (.ok true e) => fb e
  | r => r
def sOr (fa fb : EM Bool) : EM Bool := fun env => match fa env with
  | some (.ok false e) => fb e
  | r => r
def sNot (fa : EM Bool) : EM Bool := fun env => match fa env with
  | some (.ok b e) => some (.ok (!b) e)
  | r => r
section
variable {K : PySem.W.Frag} {W : WX} {σ : L2.St} {H : Hp} {p1 p2 : Bool} {ta tb : EM Bool}
theorem and_ok {Q : Bool → Hp → Prop} (h : tTQ K W (p1 && p2) (sAnd ta tb) σ H Q) : tAnd (tTQ K W p1 ta) (tTQ K W p2 tb) σ H Q := by
  obtain ⟨Z, env, F, ok, er, r, hr, post⟩ := h
  unfold sAnd at hr
  split at hr
  · rename_i e hf
    refine ⟨Z, env, F, ok, er, _, hf, fun H1 Z1 F1 x1 ok1 er1 pp1 => ?_⟩
    refine iteT ?_
    refine ⟨Z1, e, F1, ok1, er1, r, hr, ?_⟩
    cases r with
    | ok b e2 =>
      refine fun H2 Z2 F2 x2 ok2 er2 pp2 => post H2 Z2 F2 (x1.trans x2) ok2 er2 fun hp => ?_
      simp only [Bool.and_eq_true] at hp
      obtain ⟨a1, a2, a3⟩ := pp1 hp.1
      obtain ⟨b1, b2, b3⟩ := pp2 hp.2
      exact ⟨b1.trans a1, b2.trans a2, b3.1.trans a3.1, fun a u h => b3.2 a u (a3.2 a u h)⟩
    | ex x e2 => exact fun d H2 Z2 F2 x2 ok2 er2 xr => post d H2 Z2 F2 (x1.trans x2) ok2 er2 xr
  · rename_i hn
    refine ⟨Z, env, F, ok, er, r, hr, ?_⟩
    cases r with
    | ok b e =>
      cases b with
      | true => exact absurd hr (hn e)
      | false =>
        refine fun H1 Z1 F1 x1 ok1 er1 pp1 => ?_
        refine iteF ?_
        exact post H1 Z1 F1 x1 ok1 er1 fun hp => pp1 (by simp only [Bool.and_eq_true] at hp; exact hp.1)
    | ex x e => exact post
theorem or_ok {Q : Bool → Hp → Prop} (h : tTQ K W (p1 && p2) (sOr ta tb) σ H Q) : tOr (tTQ K W p1 ta) (tTQ K W p2 tb) σ H Q := by
  obtain ⟨Z, env, F, ok, er, r, hr, post⟩ := h
  unfold sOr at hr
  split at hr
  · rename_i e hf
    refine ⟨Z, env, F, ok, er, _, hf, fun H1 Z1 F1 x1 ok1 er1 pp1 => ?_⟩
    refine iteF ?_
    refine ⟨Z1, e, F1, ok1, er1, r, hr, ?_⟩
    cases r with
    | ok b e2 =>
      refine fun H2 Z2 F2 x2 ok2 er2 pp2 => post H2 Z2 F2 (x1.trans x2) ok2 er2 fun hp => ?_
      simp only [Bool.and_eq_true] at hp
      obtain ⟨a1, a2, a3⟩ := pp1 hp.1
      obtain ⟨b1, b2, b3⟩ := pp2 hp.2
      exact ⟨b1.trans a1, b2.trans a2, b3.1.trans a3.1, fun a u h => b3.2 a u (a3.2 a u h)⟩
    | ex x e2 => exact fun d H2 Z2 F2 x2 ok2 er2 xr => post d H2 Z2 F2 (x1.trans x2) ok2 er2 xr
  · rename_i hn
    refine ⟨Z, env, F, ok, er, r, hr, ?_⟩
    cases r with
    | ok b e =>
      cases b with
      | false => exact absurd hr (hn e)
      | true =>
        refine fun H1 Z1 F1 x1 ok1 er1 pp1 => ?_
        refine iteT ?_
        exact post H1 Z1 F1 x1 ok1 er1 fun hp => pp1 (by simp only [Bool.and_eq_true] at hp; exact hp.1)
    | ex x e => exact post
theorem not_ok {Q : Bool → Hp → Prop} (h : tTQ K W p1 (sNot ta) σ H Q) : tNot (tTQ K W p1 ta) σ H Q := by
  obtain ⟨Z, env, F, ok, er, r, hr, post⟩ := h
  unfold sNot at hr
  split at hr
  · rename_i b e hf
    cases hr
    exact ⟨Z, env, F, ok, er, _, hf, fun H1 Z1 F1 x1 ok1 er1 pp1 => post H1 Z1 F1 x1 ok1 er1 pp1⟩
  · rename_i hn
    cases r with
    | ok b e => exact absurd hr (hn b e)
    | ex x e => exact ⟨Z, env, F, ok, er, _, hr, post⟩
end
section
variable {X : Cx} {W : WX} {a b c : Expr} {rest : List Expr} {pos : Pos} {p p1 p2 p3 : Bool} {fa fb fc : EM Opd} {ta tb tc : EM Bool}
theorem pwq_and1 (ha : PTQ X W p a ta) : PWQ X W p (.BoolOp .And [a] pos) ta := pw_and1 ha
theorem pwq_or1 (ha : PTQ X W p a ta) : PWQ X W p (.BoolOp .Or [a] pos) ta := pw_or1 ha
theorem pwq_and (ha : PTQ X W p1 a ta) (hb : PWQ X W p2 (.BoolOp .And (b :: rest) pos) tb) : PWQ X W (p1 && p2) (.BoolOp .And (a :: b :: rest) pos) (sAnd ta tb) := (pw_and ha hb).imp fun _ _ _ h => and_ok h
theorem pwq_or (ha : PTQ X W p1 a ta) (hb : PWQ X W p2 (.BoolOp .Or (b :: rest) pos) tb) : PWQ X W (p1 && p2) (.BoolOp .Or (a :: b :: rest) pos) (sOr ta tb) := (pw_or ha hb).imp fun _ _ _ h => or_ok h
theorem ptq_w {e : Expr} (h : PWQ X W p e ta) : PTQ X W p e ta := h.pt
theorem ptq_not (ha : PTQ X W p a ta) : PTQ X W p (.UnaryOp .Not a pos) (sNot ta) := (pt_not ha).imp fun _ _ _ h => not_ok h
end

/-! ### .. as values -/
def sAndV (fa fb : EM Opd) : EM Opd := fun env => match fa env with
  | none => none
  | some (.ex x e) => some (.ex x e)
  | some (.ok o e) => match o.rd e with
    | some (.bl true) => fb e
    | some (.bl false) => some (.ok (.t (.z (.bl false))) e)
    | _ => none
def sOrV (fa fb : EM Opd) : EM Opd := fun env => match fa env with
  | none => none
  | some (.ex x e) => some (.ex x e)
  | some (.ok o e) => match o.rd e with
    | some (.bl false) => fb e
    | some (.bl true) => some (.ok (.t (.z (.bl true))) e)
    | _ => none
@[simp] def gNot : List D → Option D
  | [d] => match gTru d with
    | some b => some (.bl (!b))
    | none => none
  | _ => none
def sIf (fc : EM Bool) (fa fb : EM Opd) : EM Opd := fun env => match fc env with
  | none => none
  | some (.ex x e) => some (.ex x e)
  | some (.ok b e) => if b = true then fa e else fb e
section
variable {K : PySem.W.Frag} {W : WX} {σ : L2.St} {H : Hp} {p1 p2 p3 : Bool} {fa fb : EM Opd} {tc : EM Bool}
theorem PostE.then {σ : L2.St} {Q : VK} {Z H Z1 H1 : Hp} {F F1 : List Addr} {env e : En} {r : Res Opd} (post : PostE K W (p1 && p2) σ Q Z H F env r) (x1 : Ext Z H F Z1 H1 F1) (pp1 : p1 = true → e = env ∧ F1 = F ∧ Z1 = Z ∧ Grow H H1) : PostE K W p2 σ Q Z1 H1 F1 e r := by
  cases r with
  | ok o e2 =>
    refine fun v H2 Z2 F2 G x2 ok2 er2 or2 pp2 => post v H2 Z2 F2 G (x1.trans x2) ok2 er2 or2 fun hp => ?_
    simp only [Bool.and_eq_true] at hp
    obtain ⟨a1, a2, a3⟩ := pp1 hp.1
    obtain ⟨b1, b2, b3⟩ := pp2 hp.2
    exact ⟨b1.trans a1, b2.trans a2, b3.1.trans a3.1, fun a u h => b3.2 a u (a3.2 a u h)⟩
  | ex x e2 => exact fun d H2 Z2 F2 x2 ok2 er2 xr => post d H2 Z2 F2 (x1.trans x2) ok2 er2 xr
theorem andV_ok {Q : VK} (h : tQ K W (p1 && p2) (sAndV fa fb) σ H Q) : tAndV (tQ K W p1 fa) (tQ K W p2 fb) σ H Q := by
  obtain ⟨Z, env, F, ok, er, r, hr, post⟩ := h
  unfold sAndV at hr
  split at hr
  · cases hr
  · rename_i x e hf
    cases hr
    exact ⟨Z, env, F, ok, er, _, hf, post⟩
  · rename_i o e hf
    split at hr
    · rename_i hd
      refine ⟨Z, env, F, ok, er, _, hf, fun v H1 Z1 F1 G1 x1 ok1 er1 or1 pp1 => ⟨true, (or1.look ok1.sub er1 hd).v_bl, ?_⟩⟩
      refine iteT ?_
      exact ⟨Z1, e, F1, ok1.left, er1, r, hr, post.then (x1.sub fun a ha => List.mem_append_left _ ha) pp1⟩
    · rename_i hd
      cases hr
      refine ⟨Z, env, F, ok, er, _, hf, fun v H1 Z1 F1 G1 x1 ok1 er1 or1 pp1 => ⟨false, (or1.look ok1.sub er1 hd).v_bl, ?_⟩⟩
      refine iteF ?_
      exact post _ H1 Z1 F1 [] (by simpa using x1.sub fun a ha => List.mem_append_left _ ha) (by simpa using ok1.left) er1 (.t (.z .bl)) fun hp => pp1 (by simp only [Bool.and_eq_true] at hp; exact hp.1)
    · cases hr
theorem orV_ok {Q : VK} (h : tQ K W (p1 && p2) (sOrV fa fb) σ H Q) : tOrV (tQ K W p1 fa) (tQ K W p2 fb) σ H Q := by
  obtain ⟨Z, env, F, ok, er, r, hr, post⟩ := h
  unfold sOrV at hr
  split at hr
  · cases hr
  · rename_i x e hf
    cases hr
    exact ⟨Z, env, F, ok, er, _, hf, post⟩
  · rename_i o e hf
    split at hr
    · rename_i hd
      refine ⟨Z, env, F, ok, er, _, hf, fun v H1 Z1 F1 G1 x1 ok1 er1 or1 pp1 => ⟨false, (or1.look ok1.sub er1 hd).v_bl, ?_⟩⟩
      refine iteF ?_
      exact ⟨Z1, e, F1, ok1.left, er1, r, hr, post.then (x1.sub fun a ha => List.mem_append_left _ ha) pp1⟩
    · rename_i hd
      cases hr
      refine ⟨Z, env, F, ok, er, _, hf, fun v H1 Z1 F1 G1 x1 ok1 er1 or1 pp1 => ⟨true, (or1.look ok1.sub er1 hd).v_bl, ?_⟩⟩
      refine iteT ?_
      exact post _ H1 Z1 F1 [] (by simpa using x1.sub fun a ha => List.mem_append_left _ ha) (by simpa using ok1.left) er1 (.t (.z .bl)) fun hp => pp1 (by simp only [Bool.and_eq_true] at hp; exact hp.1)
    · cases hr
theorem if_ok {Q : VK} (h : tQ K W (p1 && (p2 && p3)) (sIf tc fa fb) σ H Q) : tIf (tTQ K W p1 tc) (tQ K W p2 fa) (tQ K W p3 fb) σ H Q := by
  obtain ⟨Z, env, F, ok, er, r, hr, post⟩ := h
  unfold sIf at hr
  split at hr
  · cases hr
  · rename_i x e hf
    cases hr
    exact ⟨Z, env, F, ok, er, _, hf, post⟩
  · rename_i b e hf
    refine ⟨Z, env, F, ok, er, _, hf, fun H1 Z1 F1 x1 ok1 er1 pp1 => ?_⟩
    have post' : PostE K W (p2 && p3) σ Q Z1 H1 F1 e r := post.then x1 pp1
    cases b with
    | true =>
      rw [if_pos rfl] at hr
      refine iteT ?_
      refine ⟨Z1, e, F1, ok1, er1, r, hr, ?_⟩
      cases r with
      | ok o e2 => exact fun v H' Z' F' G a b c d pp => post' v H' Z' F' G a b c d fun hp => pp (by simp only [Bool.and_eq_true] at hp; exact hp.1)
      | ex x e2 => exact post'
    | false =>
      rw [if_neg Bool.false_ne_true] at hr
      refine iteF ?_
      refine ⟨Z1, e, F1, ok1, er1, r, hr, ?_⟩
      cases r with
      | ok o e2 => exact fun v H' Z' F' G a b c d pp => post' v H' Z' F' G a b c d fun hp => pp (by simp only [Bool.and_eq_true] at hp; exact hp.2)
      | ex x e2 => exact post'
end
theorem link_not {K : PySem.W.Frag} : Link K (oS gNot) (fun xs H Q => ∃ k, TruV K (xs.getD 0 .non) H k ∧ Q (.bl (!k)) H) := by
  refine link_S fun H xs ds d Q r e q => ?_
  unfold gNot at e
  split at e
  · split at e
    · rename_i b hb
      cases e
      obtain ⟨x, rfl, r1⟩ := r.one
      exact ⟨b, gTru_ok r1 hb, q⟩
    · cases e
  · cases e
section
variable {X : Cx} {W : WX} {a b c : Expr} {rest : List Expr} {pos : Pos} {p p1 p2 p3 : Bool} {fa fb fc : EM Opd} {ta tb tc : EM Bool}
theorem pq_one {op} (h : PQ X W p a fa) : PQ X W p (.BoolOp op [a] pos) fa := pe_one h
theorem pq_and (ha : PQ X W p1 a fa) (hb : PQ X W p2 (.BoolOp .And (b :: rest) pos) fb) : PQ X W (p1 && p2) (.BoolOp .And (a :: b :: rest) pos) (sAndV fa fb) := (pe_and ha hb).imp fun _ _ _ h => andV_ok h
theorem pq_or (ha : PQ X W p1 a fa) (hb : PQ X W p2 (.BoolOp .Or (b :: rest) pos) fb) : PQ X W (p1 && p2) (.BoolOp .Or (a :: b :: rest) pos) (sOrV fa fb) := (pe_or ha hb).imp fun _ _ _ h => orV_ok h
theorem pq_not (ha : PQ X W p a fa) : PQ X W p (.UnaryOp .Not a pos) (sO (oS gNot) (sCons true fa sNil)) := (pe_notT ha).imp fun _ _ _ h => one_ok (o_ok (link_not (K := X.K)) h)
theorem pq_if (hc : PTQ X W p1 c tc) (ha : PQ X W p2 a fa) (hb : PQ X W p3 b fb) : PQ X W (p1 && (p2 && p3)) (.IfExp c a b pos) (sIf tc fa fb) := (pe_ifExp hc ha hb).imp fun _ _ _ h => if_ok h
end
end DL

/-! DL6: statements. -/
namespace DL
open PySem PySem.Spec PyProof.Rows L2

inductive Out where
  | nx (e : En) | bk (e : En) | ct (e : En) | rt (t : T) (e : En) | ex (x : Exc) (e : En)
abbrev SM := En → Option Out
def Pin (P : List Nat) (σ σ' : L2.St) : Prop := σ'.length = σ.length ∧ ∀ i ∈ P, σ'[i]? = σ[i]?
theorem Pin.refl {P : List Nat} {σ : L2.St} : Pin P σ σ := ⟨rfl, fun _ _ => rfl⟩
theorem Pin.trans {P : List Nat} {σ σ1 σ2 : L2.St} (a : Pin P σ σ1) (b : Pin P σ1 σ2) : Pin P σ σ2 := ⟨b.1.trans a.1, fun i h => (b.2 i h).trans (a.2 i h)⟩
theorem Pin.sub {P P' : List Nat} {σ σ1 : L2.St} (a : Pin P' σ σ1) (h : ∀ i ∈ P, i ∈ P') : Pin P σ σ1 := ⟨a.1, fun i m => a.2 i (h i m)⟩
theorem Pin.set {P : List Nat} {σ : L2.St} {i : Nat} {v : Option V} (h : i ∉ P) : Pin P σ (σ.set i v) := ⟨by simp, fun j m => by
  rw [List.getElem?_set_ne (fun (e : i = j) => h (by rw [e]; exact m))]⟩

def PostS (K : PySem.W.Frag) (W : WX) (P : List Nat) (D : Ends) (σ : L2.St) (Z H : Hp) (F : List Addr) : Out → Prop
  | .nx e => ∀ σ' H' Z' F', Ext Z H F Z' H' F' → Ok Z' H' F' → EnvR K Z' H' e σ' F' → Pin P σ σ' → D.nx σ' H'
  | .bk e => ∀ σ' H' Z' F', Ext Z H F Z' H' F' → Ok Z' H' F' → EnvR K Z' H' e σ' F' → Pin P σ σ' → D.bk σ' H'
  | .ct e => ∀ σ' H' Z' F', Ext Z H F Z' H' F' → Ok Z' H' F' → EnvR K Z' H' e σ' F' → Pin P σ σ' → D.ct σ' H'
  | .rt t e => ∀ v σ' H' Z' F' G, Ext Z H F Z' H' (F' ++ G) → Ok Z' H' (F' ++ G) → EnvR K Z' H' e σ' F' → RepT K Z' H' t v G → Pin P σ σ' → D.rt v H'
  | .ex x e => ∀ d σ' H' Z' F', Ext Z H F Z' H' F' → Ok Z' H' F' → EnvR K Z' H' e σ' F' → ExR K Z' H' x d → Pin P σ σ' → W (.ref x.C) d σ' H'
def tS (K : PySem.W.Frag) (W : WX) (P : List Nat) (g : SM) : TS := fun D σ H =>
  ∃ Z env F, Ok Z H F ∧ EnvR K Z H env σ F ∧ ∃ o, g env = some o ∧ PostS K W P D σ Z H F o
abbrev PSQ (X : Cx) (W : WX) (P : List Nat) (st : Stmt) (g : SM) : Prop := PS X st (tS X.K W P g)
abbrev PBQ (X : Cx) (W : WX) (P : List Nat) (st : List Stmt) (g : SM) : Prop := PSs X st (tS X.K W P g)
theorem _root_.L2.PS.imp {X : Cx} {st : Stmt} {t t' : TS} (h : PS X st t) (i : ∀ D σ H, t' D σ H → t D σ H) : PS X st t' := ⟨fun pins s σ H D I q => h.run pins s σ H D I (i D σ H q)⟩
theorem _root_.L2.PSs.imp {X : Cx} {st : List Stmt} {t t' : TS} (h : PSs X st t) (i : ∀ D σ H, t' D σ H → t D σ H) : PSs X st t' := ⟨fun pins s σ H D I q => h.run pins s σ H D I (i D σ H q)⟩

section
variable {K : PySem.W.Frag} {W : WX} {P : List Nat} {D : Ends} {σ : L2.St} {Z H : Hp} {F : List Addr}
theorem PostS.then {σ1 : L2.St} {Z1 H1 : Hp} {F1 : List Addr} {o : Out} (post : PostS K W P D σ Z H F o) (x : Ext Z H F Z1 H1 F1) (pn : Pin P σ σ1) : PostS K W P D σ1 Z1 H1 F1 o := by
  cases o with
  | nx e => exact fun σ' H' Z' F' a b c d => post σ' H' Z' F' (x.trans a) b c (pn.trans d)
  | bk e => exact fun σ' H' Z' F' a b c d => post σ' H' Z' F' (x.trans a) b c (pn.trans d)
  | ct e => exact fun σ' H' Z' F' a b c d => post σ' H' Z' F' (x.trans a) b c (pn.trans d)
  | rt t e => exact fun v σ' H' Z' F' G a b c d f => post v σ' H' Z' F' G (x.trans a) b c d (pn.trans f)
  | ex y e => exact fun d σ' H' Z' F' a b c f g => post d σ' H' Z' F' (x.trans a) b c f (pn.trans g)
theorem tS_at {env : En} {g : SM} {o : Out} (ok : Ok Z H F) (er : EnvR K Z H env σ F) (e : g env = some o) (post : PostS K W P D σ Z H F o) : tS K W P g D σ H := ⟨Z, env, F, ok, er, o, e, post⟩
end

/-! ### blocks -/
def sNext : SM := fun env => some (.nx env)
def sSeq (g h : SM) : SM := fun env => match g env with
  | some (.nx e) => h e
  | r => r
section
variable {X : Cx} {W : WX} {P : List Nat} {st : Stmt} {rest : List Stmt} {g h : SM}
theorem seq_ok {K : PySem.W.Frag} {D : Ends} {σ : L2.St} {H : Hp} (q : tS K W P (sSeq g h) D σ H) : tSeq (tS K W P g) (tS K W P h) D σ H := by
  obtain ⟨Z, env, F, ok, er, o, ho, post⟩ := q
  unfold sSeq at ho
  split at ho
  · rename_i e hg
    exact ⟨Z, env, F, ok, er, _, hg, fun σ' H' Z' F' a b c d => ⟨Z', e, F', b, c, o, ho, post.then a d⟩⟩
  · rename_i hn
    refine ⟨Z, env, F, ok, er, o, ho, ?_⟩
    cases o with
    | nx e => exact absurd ho (hn e)
    | bk e => exact post
    | ct e => exact post
    | rt t e => exact post
    | ex x e => exact post
theorem psq_nil : PBQ X W P [] sNext := by
  refine pss_nil.imp fun D σ H ⟨Z, env, F, ok, er, o, ho, post⟩ => ?_
  cases ho
  exact post σ H Z F Ext.refl ok er Pin.refl
theorem psq_cons (h1 : PSQ X W P st g) (h2 : PBQ X W P rest h) : PBQ X W P (st :: rest) (sSeq g h) := (pss_cons h1 h2).imp fun _ _ _ q => seq_ok q
theorem psq_one (h1 : PSQ X W P st g) : PBQ X W P [st] g := pss_one h1
theorem psq_pass {pos : Pos} : PSQ X W P (.Pass pos) sNext := by
  refine ps_pass.imp fun D σ H ⟨Z, env, F, ok, er, o, ho, post⟩ => ?_
  cases ho
  exact post σ H Z F Ext.refl ok er Pin.refl
def sBreak : SM := fun env => some (.bk env)
def sCont : SM := fun env => some (.ct env)
theorem psq_break {pos : Pos} : PSQ X W P (.Break pos) sBreak := by
  refine ps_break.imp fun D σ H ⟨Z, env, F, ok, er, o, ho, post⟩ => ?_
  cases ho
  exact post σ H Z F Ext.refl ok er Pin.refl
theorem psq_cont {pos : Pos} : PSQ X W P (.Continue pos) sCont := by
  refine ps_continue.imp fun D σ H ⟨Z, env, F, ok, er, o, ho, post⟩ => ?_
  cases ho
  exact post σ H Z F Ext.refl ok er Pin.refl
theorem psq_doc {x j} {pos pos' : Pos} : PSQ X W P (.Expr (.Constant (.str x) j pos) pos') sNext := by
  refine ps_doc.imp fun D σ H ⟨Z, env, F, ok, er, o, ho, post⟩ => ?_
  cases ho
  exact post σ H Z F Ext.refl ok er Pin.refl
end

/-! ### operands taken -/
@[simp] def Opd.take (env : En) : Opd → Option (T × En)
  | .t u => some (u, env)
  | .k d => if d.imm = true then some (.z d, env) else none
  | .s i => match env[i]? with
    | some (some (.z d)) => some (.z d, env)
    | some (some u) => some (.z u.er, env.set i (some (.z u.er)))
    | _ => none
/-- behind return: a name's value goes with it -/
@[simp] def Opd.mv (env : En) : Opd → Option (T × En)
  | .t u => some (u, env)
  | .k d => if d.imm = true then some (.z d, env) else none
  | .s i => match env[i]? with
    | some (some u) => some (u, env.set i none)
    | _ => none
section
variable {K : PySem.W.Frag} {σ : L2.St} {Z H : Hp} {F G : List Addr} {env env' : En} {o : Opd} {t : T} {v : V}
theorem Ext.subF {F' : List Addr} (h : ∀ a ∈ F', a ∈ F) : Ext Z H F Z H F' := ⟨fun _ _ h => h, fun _ _ h _ => h, fun a m => .inl (h a m), fun _ _ h => .inl h⟩
theorem mv_ok (ok : Ok Z H (F ++ G)) (er : EnvR K Z H env σ F) (r : OpdR K Z H σ o v G) (e : o.mv env = some (t, env')) :
    ∃ F' G', Ext Z H (F ++ G) Z H (F' ++ G') ∧ Ok Z H (F' ++ G') ∧ EnvR K Z H env' σ F' ∧ RepT K Z H t v G' := by
  cases r with
  | t r =>
    simp only [Opd.mv, Option.some.injEq, Prod.mk.injEq] at e
    obtain ⟨rfl, rfl⟩ := e
    exact ⟨F, G, Ext.refl, ok, er, r⟩
  | k r =>
    simp only [Opd.mv] at e
    split at e
    · rename_i hi
      simp only [Option.some.injEq, Prod.mk.injEq] at e
      obtain ⟨rfl, rfl⟩ := e
      exact ⟨F, [], Ext.refl, ok, er, .z (r.imm (fun _ _ z => z) hi)⟩
    · cases e
  | @s i v h =>
    simp only [Opd.mv] at e
    split at e
    · rename_i u q
      simp only [Option.some.injEq, Prod.mk.injEq] at e
      obtain ⟨rfl, rfl⟩ := e
      obtain ⟨A, Fi, B, o, e1, e2, e3, e4⟩ := er.lens q
      rw [h] at e2
      have e2' := Option.some.inj e2
      subst e2'
      cases e3 with
      | so r =>
        have er' := e4 Z H (fun _ _ z => z) (fun _ _ z => z) (fun _ _ _ z => z) none (some v) [] .no
        have hσ : σ.set i (some v) = σ := by
          apply List.ext_getElem?
          intro j
          by_cases hj : i = j
          · subst hj
            obtain ⟨hl, _⟩ := List.getElem?_eq_some_iff.mp h
            rw [List.getElem?_set_self hl, h]
          · rw [List.getElem?_set_ne hj]
        rw [hσ] at er'
        subst e1
        have pm : (A ++ Fi ++ B).Perm (A ++ [] ++ B ++ Fi) := by
          simp only [List.append_nil, List.append_assoc]
          exact List.Perm.append_left A List.perm_append_comm
        exact ⟨A ++ [] ++ B, Fi, Ext.subF fun a ha => by simp only [List.append_nil] ; exact pm.mem_iff.mpr ha, (by simpa using ok : Ok Z H (A ++ Fi ++ B)).perm pm, er', r⟩
    · cases e
/-- a slot is frozen -/
theorem freeze_ok {i : Nat} {u : T} (ok : Ok Z H (F ++ G)) (er : EnvR K Z H env σ F) (e : env[i]? = some (some u)) :
    ∃ Z' F' v, σ[i]? = some (some v) ∧ Ext Z H (F ++ G) Z' H (F' ++ G) ∧ Ok Z' H (F' ++ G) ∧ EnvR K Z' H (env.set i (some (.z u.er))) σ F' ∧ Rep K Z' H u.er v := by
  obtain ⟨A, Fi, B, o, e1, e2, e3, e4⟩ := er.lens e
  cases e3 with
  | @so _ v _ r =>
    have hσ : σ.set i (some v) = σ := by
      apply List.ext_getElem?
      intro j
      by_cases hj : i = j
      · subst hj
        obtain ⟨hl, _⟩ := List.getElem?_eq_some_iff.mp e2
        rw [List.getElem?_set_self hl, e2]
      · rw [List.getElem?_set_ne hj]
    subst e1
    let Z' : Hp := fun a => if a ∈ Fi then H a else Z a
    have zz : ∀ a o, Z a = some o → Z' a = some o := fun a o h => by
      show (if a ∈ Fi then H a else Z a) = some o
      split
      · exact ok.sub a o h
      · exact h
    have rz : Rep K Z' H u.er v := r.frz zz fun a ha o h => by
      show (if a ∈ Fi then H a else Z a) = some o
      rw [if_pos ha]; exact h
    have er' := e4 Z' H zz (fun _ _ z => z) (fun _ _ _ z => z) (some (.z u.er)) (some v) [] (.so (.z rz))
    rw [hσ] at er'
    have nd := ok.nod
    refine ⟨Z', A ++ [] ++ B, v, e2, ⟨zz, fun _ _ h _ => h, fun a m => .inl ?_, fun a o h => ?_⟩, ⟨fun a o h => ?_, ?_, fun a m => ?_, fun a m => ok.mu a ?_⟩, er', rz⟩
    · simp only [List.append_nil, List.mem_append] at m ⊢
      rcases m with (m | m) | m
      · exact .inl (.inl (.inl m))
      · exact .inl (.inr m)
      · exact .inr m
    · have h' : (if a ∈ Fi then H a else Z a) = some o := h
      split at h'
      · rename_i hm
        exact .inr (.inl (by simp [hm]))
      · exact .inl h'
    · have h' : (if a ∈ Fi then H a else Z a) = some o := h
      split at h'
      · exact h'
      · exact ok.sub a o h'
    · simp only [List.append_nil]
      refine nd.sublist ?_
      simp only [List.append_assoc]
      exact List.Sublist.append_left (List.sublist_append_right _ _) A
    · show (if a ∈ Fi then H a else Z a) = none
      rw [if_neg]
      · refine ok.dis a ?_
        simp only [List.append_nil, List.mem_append] at m ⊢
        rcases m with (m | m) | m
        · exact .inl (.inl (.inl m))
        · exact .inl (.inr m)
        · exact .inr m
      · intro hm
        simp only [List.append_assoc, List.nodup_append, List.mem_append] at nd
        simp only [List.append_nil, List.mem_append] at m
        rcases m with (m | m) | m
        · exact nd.2.2 a m a (.inl hm) rfl
        · exact nd.2.1.2.2 a hm a (.inl m) rfl
        · exact nd.2.1.2.2 a hm a (.inr m) rfl
    · simp only [List.append_nil, List.mem_append] at m ⊢
      rcases m with (m | m) | m
      · exact .inl (.inl (.inl m))
      · exact .inl (.inr m)
      · exact .inr m
theorem take_ok (ok : Ok Z H (F ++ G)) (er : EnvR K Z H env σ F) (r : OpdR K Z H σ o v G) (e : o.take env = some (t, env')) :
    ∃ Z' F' G', Ext Z H (F ++ G) Z' H (F' ++ G') ∧ Ok Z' H (F' ++ G') ∧ EnvR K Z' H env' σ F' ∧ RepT K Z' H t v G' := by
  cases r with
  | t r =>
    simp only [Opd.take, Option.some.injEq, Prod.mk.injEq] at e
    obtain ⟨rfl, rfl⟩ := e
    exact ⟨Z, F, G, Ext.refl, ok, er, r⟩
  | k r =>
    simp only [Opd.take] at e
    split at e
    · rename_i hi
      simp only [Option.some.injEq, Prod.mk.injEq] at e
      obtain ⟨rfl, rfl⟩ := e
      exact ⟨Z, F, [], Ext.refl, ok, er, .z (r.imm (fun _ _ z => z) hi)⟩
    · cases e
  | @s i v h =>
    simp only [Opd.take] at e
    split at e
    · rename_i d q
      simp only [Option.some.injEq, Prod.mk.injEq] at e
      obtain ⟨rfl, rfl⟩ := e
      obtain ⟨v', Fi, h1, h2, _⟩ := er.at q
      rw [h] at h1; cases h1
      cases h2 with
      | z h2 => exact ⟨Z, F, [], Ext.refl, ok, er, .z h2⟩
    · rename_i u _ q
      simp only [Option.some.injEq, Prod.mk.injEq] at e
      obtain ⟨rfl, rfl⟩ := e
      obtain ⟨Z', F', v', h1, h2, h3, h4, h5⟩ := freeze_ok ok er q
      rw [h] at h1; cases h1
      exact ⟨Z', F', [], h2, h3, h4, .z h5⟩
    · cases e
end

/-! ### assignment to a name, return, an expression -/
def sSet (i : Nat) (f : EM Opd) : SM := fun env => match f env with
  | none => none
  | some (.ex x e) => some (.ex x e)
  | some (.ok o e) => match o.take e with
    | none => none
    | some (t, e') => if i < e'.length then some (.nx (e'.set i (some t))) else none
def sRet (f : EM Opd) : SM := fun env => match f env with
  | none => none
  | some (.ex x e) => some (.ex x e)
  | some (.ok o e) => match o.mv e with
    | none => none
    | some (t, e') => some (.rt t e')
def sRetN : SM := fun env => some (.rt (.z .non) env)
def sDrop (f : EM Opd) : SM := fun env => match f env with
  | none => none
  | some (.ex x e) => some (.ex x e)
  | some (.ok _ e) => some (.nx e)
def sIfS (fc : EM Bool) (g h : SM) : SM := fun env => match fc env with
  | none => none
  | some (.ex x e) => some (.ex x e)
  | some (.ok b e) => if b = true then g e else h e
section
variable {K : PySem.W.Frag} {W : WX} {P : List Nat} {D : Ends} {σ : L2.St} {H : Hp} {p : Bool} {f : EM Opd} {fc : EM Bool} {g h : SM} {i : Nat}
theorem EnvR.put {Z : Hp} {F G : List Addr} {env : En} {t : T} {v : V} (ok : Ok Z H (F ++ G)) (er : EnvR K Z H env σ F) (r : RepT K Z H t v G) (hi : i < env.length) :
    ∃ F', Ext Z H (F ++ G) Z H F' ∧ Ok Z H F' ∧ EnvR K Z H (env.set i (some t)) (σ.set i (some v)) F' := by
  obtain ⟨A, Fi, B, o, e1, e2, e3, e4⟩ := er.lens (i := i) (e := env[i]) (by simp [hi])
  have er' := e4 Z H (fun _ _ z => z) (fun _ _ z => z) (fun _ _ _ z => z) (some t) (some v) G (.so r)
  subst e1
  have pm : (A ++ G ++ B).Perm (A ++ B ++ G) := by
    simp only [List.append_assoc]
    exact List.Perm.append_left A List.perm_append_comm
  have sl : (A ++ B ++ G).Sublist (A ++ Fi ++ B ++ G) := by
    simp only [List.append_assoc]
    exact List.Sublist.append_left (List.sublist_append_right _ _) A
  exact ⟨A ++ G ++ B, Ext.subF fun a ha => sl.subset (pm.mem_iff.mp ha), (ok.subF sl).perm pm.symm, er'⟩
theorem asg_ok (hP : i ∉ P) (q : tS K W P (sSet i f) D σ H) : tQ K W false f σ H fun x H1 => D.nx (σ.set i (some x)) H1 := by
  obtain ⟨Z, env, F, ok, er, o, ho, post⟩ := q
  unfold sSet at ho
  split at ho
  · cases ho
  · rename_i x e hf
    cases ho
    exact ⟨Z, env, F, ok, er, _, hf, fun d H' Z' F' a b c f => post d σ H' Z' F' a b c f Pin.refl⟩
  · rename_i o e hf
    split at ho
    · cases ho
    · rename_i t e' ht
      split at ho
      · rename_i hi
        cases ho
        refine ⟨Z, env, F, ok, er, _, hf, fun v H1 Z1 F1 G1 x1 ok1 er1 or1 _ => ?_⟩
        obtain ⟨Z2, F2, G2, x2, ok2, er2, r2⟩ := take_ok ok1 er1 or1 ht
        obtain ⟨F3, x3, ok3, er3⟩ := er2.put ok2 r2 hi
        exact post _ H1 Z2 F3 ((x1.trans x2).trans x3) ok3 er3 (Pin.set hP)
      · cases ho
theorem ret_ok (q : tS K W P (sRet f) D σ H) : tQ K W false f σ H D.rt := by
  obtain ⟨Z, env, F, ok, er, o, ho, post⟩ := q
  unfold sRet at ho
  split at ho
  · cases ho
  · rename_i x e hf
    cases ho
    exact ⟨Z, env, F, ok, er, _, hf, fun d H' Z' F' a b c f => post d σ H' Z' F' a b c f Pin.refl⟩
  · rename_i o e hf
    split at ho
    · cases ho
    · rename_i t e' ht
      cases ho
      refine ⟨Z, env, F, ok, er, _, hf, fun v H1 Z1 F1 G1 x1 ok1 er1 or1 _ => ?_⟩
      obtain ⟨F2, G2, x2, ok2, er2, r2⟩ := mv_ok ok1 er1 or1 ht
      exact post v σ H1 Z1 F2 G2 (x1.trans x2) ok2 er2 r2 Pin.refl
theorem drop_ok (q : tS K W P (sDrop f) D σ H) : tQ K W false f σ H fun _ H1 => D.nx σ H1 := by
  obtain ⟨Z, env, F, ok, er, o, ho, post⟩ := q
  unfold sDrop at ho
  split at ho
  · cases ho
  · rename_i x e hf
    cases ho
    exact ⟨Z, env, F, ok, er, _, hf, fun d H' Z' F' a b c f => post d σ H' Z' F' a b c f Pin.refl⟩
  · rename_i o e hf
    cases ho
    exact ⟨Z, env, F, ok, er, _, hf, fun v H1 Z1 F1 G1 x1 ok1 er1 or1 _ => post σ H1 Z1 F1 (x1.sub fun a ha => List.mem_append_left _ ha) ok1.left er1 Pin.refl⟩
theorem ifS_ok (q : tS K W P (sIfS fc g h) D σ H) : tIfS (tTQ K W false fc) (tS K W P g) (tS K W P h) D σ H := by
  obtain ⟨Z, env, F, ok, er, o, ho, post⟩ := q
  unfold sIfS at ho
  split at ho
  · cases ho
  · rename_i x e hf
    cases ho
    exact ⟨Z, env, F, ok, er, _, hf, fun d H' Z' F' a b c f => post d σ H' Z' F' a b c f Pin.refl⟩
  · rename_i b e hf
    refine ⟨Z, env, F, ok, er, _, hf, fun H1 Z1 F1 x1 ok1 er1 _ => ?_⟩
    cases b with
    | true =>
      rw [if_pos rfl] at ho
      exact iteT ⟨Z1, e, F1, ok1, er1, o, ho, post.then x1 Pin.refl⟩
    | false =>
      rw [if_neg Bool.false_ne_true] at ho
      exact iteF ⟨Z1, e, F1, ok1, er1, o, ho, post.then x1 Pin.refl⟩
end
/-- pure or not -/
theorem tQ_any {K : PySem.W.Frag} {W : WX} {p : Bool} {f : EM Opd} {σ : L2.St} {H : Hp} {Q : VK} (h : tQ K W false f σ H Q) : tQ K W p f σ H Q := by
  obtain ⟨Z, env, F, ok, er, r, hr, post⟩ := h
  refine ⟨Z, env, F, ok, er, r, hr, ?_⟩
  cases p with
  | false => exact post
  | true => exact post.weak
theorem tTQ_any {K : PySem.W.Frag} {W : WX} {p : Bool} {f : EM Bool} {σ : L2.St} {H : Hp} {Q : Bool → Hp → Prop} (h : tTQ K W false f σ H Q) : tTQ K W p f σ H Q := by
  obtain ⟨Z, env, F, ok, er, r, hr, post⟩ := h
  refine ⟨Z, env, F, ok, er, r, hr, ?_⟩
  cases r with
  | ok b e => exact fun H' Z' F' a b c _ => post H' Z' F' a b c fun z => nomatch z
  | ex x e => exact post
section
variable {X : Cx} {W : WX} {P : List Nat} {e : Expr} {c : Expr} {a b : List Stmt} {pos pos' : Pos} {x : Str} {i : Nat} {p : Bool} {f : EM Opd} {fc : EM Bool} {g h : SM}
theorem psq_set (hN : X.N.Nodup) (hi : X.N[i]? = some x) (hx : Loc X.env.scope x) (he : PQ X W p e f) (hP : i ∉ P := by decide) (hs : swapsWith e (some (.Name x pos')) pos.line X.env = pure false := by rfl) (hf : X.fn x = true ∨ X.env.scope.names.lookup x = some .local := by first | exact .inl rfl | exact .inr rfl | assumption) :
    PSQ X W P (.Assign [.Name x pos'] e pos) (sSet i f) :=
  (ps_set hN hi hx he hs hf).imp fun D σ H q => tQ_any (asg_ok hP q)
theorem psq_ret (he : PQ X W p e f) : PSQ X W P (.Return (some e) pos) (sRet f) := (ps_ret he).imp fun D σ H q => tQ_any (ret_ok q)
theorem psq_retN : PSQ X W P (.Return none pos) sRetN := by
  refine ps_retN.imp fun D σ H ⟨Z, env, F, ok, er, o, ho, post⟩ => ?_
  cases ho
  exact post .non σ H Z F [] (by simpa using Ext.refl) (by simpa using ok) er (.z .non) Pin.refl
theorem psq_expr (he : PQ X W p e f) (hs : swapsWith e none pos.line X.env = pure false := by rfl) : PSQ X W P (.Expr e pos) (sDrop f) := (ps_expr he hs).imp fun D σ H q => tQ_any (drop_ok q)
theorem psq_if (hc : PTQ X W p c fc) (ha : PBQ X W P a g) (hb : PBQ X W P b h) : PSQ X W P (.If c a b pos) (sIfS fc g h) := (ps_if (hc.imp fun _ _ _ z => tTQ_any z : PTQ X W false c fc) ha hb).imp fun D σ H q => ifS_ok q
end
end DL

/-! DL7: loops. -/
namespace DL
open PySem PySem.Spec PyProof.Rows L2

/-! ### while -/
def whileStep (fc : EM Bool) (g : SM) (r : SM) : SM := fun env => match fc env with
  | none => none
  | some (.ex x e) => some (.ex x e)
  | some (.ok false e) => some (.nx e)
  | some (.ok true e) => match g e with
    | some (.nx e') => r e'
    | some (.ct e') => r e'
    | some (.bk e') => some (.nx e')
    | o => o
def sWhileN (fc : EM Bool) (g : SM) : Nat → SM
  | 0 => fun _ => none
  | n + 1 => whileStep fc g (sWhileN fc g n)
theorem whileN_mono {fc : EM Bool} {g : SM} : ∀ {n : Nat} {env : En} {o : Out}, sWhileN fc g n env = some o → sWhileN fc g (n + 1) env = some o
  | 0, _, _, h => by simp [sWhileN] at h
  | n + 1, env, o, h => by
    have ih := @whileN_mono fc g n
    rw [sWhileN] at h ⊢
    unfold whileStep at h ⊢
    split at h
    · cases h
    · exact h
    · exact h
    · split at h <;> first | exact ih h | exact h
theorem whileN_le {fc : EM Bool} {g : SM} {n m : Nat} {env : En} {o : Out} (h : sWhileN fc g n env = some o) (l : n ≤ m) : sWhileN fc g m env = some o := by
  induction l with
  | refl => exact h
  | step _ ih => exact whileN_mono ih
open Classical in
noncomputable def sWhile (fc : EM Bool) (g : SM) : SM := fun env => if h : ∃ n o, sWhileN fc g n env = some o then some h.choose_spec.choose else none
theorem while_of {fc : EM Bool} {g : SM} {n : Nat} {env : En} {o : Out} (h : sWhileN fc g n env = some o) : sWhile fc g env = some o := by
  have q : ∃ n o, sWhileN fc g n env = some o := ⟨n, o, h⟩
  unfold sWhile
  rw [dif_pos q]
  have e := q.choose_spec.choose_spec
  have h1 := whileN_le h (Nat.le_max_left n q.choose)
  have h2 := whileN_le e (Nat.le_max_right n q.choose)
  rw [h1] at h2
  exact h2.symm
theorem while_to {fc : EM Bool} {g : SM} {env : En} {o : Out} (h : sWhile fc g env = some o) : ∃ n, sWhileN fc g n env = some o := by
  unfold sWhile at h
  split at h
  · rename_i q
    have e := q.choose_spec.choose_spec
    cases h
    exact ⟨_, e⟩
  · cases h
/-- the equation of a while -/
theorem while_eq {fc : EM Bool} {g : SM} {env : En} {o : Out} (h : whileStep fc g (sWhile fc g) env = some o) : sWhile fc g env = some o := by
  unfold whileStep at h
  split at h
  · cases h
  · rename_i x e hf
    refine while_of (n := 1) ?_
    simp only [sWhileN, whileStep, hf]
    exact h
  · rename_i e hf
    refine while_of (n := 1) ?_
    simp only [sWhileN, whileStep, hf]
    exact h
  · rename_i e hf
    split at h
    · rename_i e' hg
      obtain ⟨n, hn⟩ := while_to h
      refine while_of (n := n + 1) ?_
      simp only [sWhileN, whileStep, hf, hg]
      exact hn
    · rename_i e' hg
      obtain ⟨n, hn⟩ := while_to h
      refine while_of (n := n + 1) ?_
      simp only [sWhileN, whileStep, hf, hg]
      exact hn
    · rename_i e' hg
      refine while_of (n := 1) ?_
      simp only [sWhileN, whileStep, hf, hg]
      exact h
    · rename_i o' h1 h2 h3
      refine while_of (n := 1) ?_
      simp only [sWhileN, whileStep, hf]
      first
        | exact h
        | (split
           · rename_i e' hg; exact (h1 e' hg).elim
           · rename_i e' hg; exact (h2 e' hg).elim
           · rename_i e' hg; exact (h3 e' hg).elim
           · exact h)
section
variable {K : PySem.W.Frag} {W : WX} {P : List Nat} {D : Ends} {σ : L2.St} {H : Hp} {fc : EM Bool} {g : SM}
theorem while_ok (q : tS K W P (sWhile fc g) D σ H) : tWhile (tTQ K W false fc) (tS K W P g) D σ H := by
  obtain ⟨Z, env, F, ok, er, o, ho, post⟩ := q
  obtain ⟨n, hn⟩ := while_to ho
  refine ⟨fun m σ' H' => ∃ Z' env' F', Ok Z' H' F' ∧ EnvR K Z' H' env' σ' F' ∧ sWhileN fc g m env' = some o ∧ PostS K W P D σ' Z' H' F' o, ⟨n, Z, env, F, ok, er, hn, post⟩, ?_⟩
  rintro m σ1 H1 ⟨Z1, env1, F1, ok1, er1, h1, post1⟩
  cases m with
  | zero => simp [sWhileN] at h1
  | succ m =>
    rw [sWhileN] at h1
    unfold whileStep at h1
    split at h1
    · cases h1
    · rename_i x e hf
      cases h1
      exact ⟨Z1, env1, F1, ok1, er1, _, hf, fun d H' Z' F' a b c f => post1 d σ1 H' Z' F' a b c f Pin.refl⟩
    · rename_i e hf
      cases h1
      refine ⟨Z1, env1, F1, ok1, er1, _, hf, fun H2 Z2 F2 x2 ok2 er2 _ => ?_⟩
      exact iteF (post1 σ1 H2 Z2 F2 x2 ok2 er2 Pin.refl)
    · rename_i e hf
      refine ⟨Z1, env1, F1, ok1, er1, _, hf, fun H2 Z2 F2 x2 ok2 er2 _ => iteT ?_⟩
      refine ⟨fun σ' H' => ∃ Z' env' F', Ok Z' H' F' ∧ EnvR K Z' H' env' σ' F' ∧ sWhileN fc g m env' = some o ∧ PostS K W P D σ' Z' H' F' o, fun σ' H' h => ⟨m, Nat.lt_succ_self _, h⟩, ?_⟩
      have post2 : PostS K W P D σ1 Z2 H2 F2 o := post1.then x2 Pin.refl
      split at h1
      · rename_i e' hg
        exact ⟨Z2, e, F2, ok2, er2, _, hg, fun σ' H' Z' F' a b c d => ⟨Z', e', F', b, c, h1, post2.then a d⟩⟩
      · rename_i e' hg
        exact ⟨Z2, e, F2, ok2, er2, _, hg, fun σ' H' Z' F' a b c d => ⟨Z', e', F', b, c, h1, post2.then a d⟩⟩
      · rename_i e' hg
        cases h1
        exact ⟨Z2, e, F2, ok2, er2, _, hg, fun σ' H' Z' F' a b c d => post2 σ' H' Z' F' a b c d⟩
      · rename_i n1 n2 n3
        refine ⟨Z2, e, F2, ok2, er2, _, h1, ?_⟩
        cases o with
        | nx e' => exact (n1 e' h1).elim
        | ct e' => exact (n2 e' h1).elim
        | bk e' => exact (n3 e' h1).elim
        | rt t e' => exact post2
        | ex x e' => exact post2
end
theorem psq_while {X : Cx} {W : WX} {P : List Nat} {c : Expr} {body : List Stmt} {pos : Pos} {p : Bool} {fc : EM Bool} {g : SM} (hp : PassesOwn (model X.prog X.w) X.A X.env X.xe) (hc : PTQ X W p c fc) (hb : PBQ X W P body g) : PSQ X W P (.While c body [] pos) (sWhile fc g) :=
  (ps_while hp (hc.imp fun _ _ _ z => tTQ_any z : PTQ X W false c fc) hb).imp fun D σ H q => while_ok q

/-! ### targets -/
abbrev GM := T → En → Option En
def tG (K : PySem.W.Frag) (P : List Nat) (s : GM) : TG := fun v σ H Q =>
  ∃ Z env F t G, Ok Z H (F ++ G) ∧ EnvR K Z H env σ F ∧ RepT K Z H t v G ∧ ∃ env', s t env = some env' ∧ ∀ σ' F', Ext Z H (F ++ G) Z H F' → Ok Z H F' → EnvR K Z H env' σ' F' → Pin P σ σ' → Q σ' H
def tGs (K : PySem.W.Frag) (P : List Nat) (s : List T → En → Option En) : TGs := fun vs σ H Q =>
  ∃ Z env F ts G, Ok Z H (F ++ G) ∧ EnvR K Z H env σ F ∧ RepTs K Z H ts vs G ∧ ∃ env', s ts env = some env' ∧ ∀ σ' F', Ext Z H (F ++ G) Z H F' → Ok Z H F' → EnvR K Z H env' σ' F' → Pin P σ σ' → Q σ' H
abbrev PGQ (X : Cx) (P : List Nat) (tg : Expr) (s : GM) : Prop := PG X tg (tG X.K P s)
def gmName (i : Nat) : GM := fun t env => if i < env.length then some (env.set i (some t)) else none
def gmNil : List T → En → Option En
  | [], env => some env
  | _ :: _, _ => none
def gmCons (s : GM) (r : List T → En → Option En) : List T → En → Option En
  | [], _ => none
  | t :: ts, env => match s t env with
    | none => none
    | some e => r ts e
def gmTup (n : Nat) (r : List T → En → Option En) : GM := fun t env => match t with
  | .z (.tup ds) => if ds.length = n then r (ds.map .z) env else none
  | .tup ts => if ts.length = n then r ts env else none
  | _ => none
theorem _root_.L2.PG.imp {X : Cx} {e : Expr} {t t' : TG} (h : PG X e t) (i : ∀ v σ H Q, t' v σ H Q → t v σ H Q) : PG X e t' := ⟨fun pins s σ H v u Q I r q => h.run pins s σ H v u Q I r (i v σ H Q q)⟩
theorem _root_.L2.PGs.imp {X : Cx} {e : List Expr} {t t' : TGs} (h : PGs X e t) (i : ∀ v σ H Q, t' v σ H Q → t v σ H Q) : PGs X e t' := ⟨fun pins s σ H v u Q I r q => h.run pins s σ H v u Q I r (i v σ H Q q)⟩
section
variable {X : Cx} {P : List Nat} {pos : Pos} {x : Str} {i : Nat}
theorem pgq_name (hN : X.N.Nodup) (hi : X.N[i]? = some x) (hx : Loc X.env.scope x) (hP : i ∉ P := by decide) (hf : X.fn x = true ∨ X.env.scope.names.lookup x = some .local := by first | exact .inl rfl | exact .inr rfl | assumption) : PGQ X P (.Name x pos) (gmName i) := by
  refine (pg_name hN hi hx hf).imp fun v σ H Q ⟨Z, env, F, t, G, ok, er, r, env', e, q⟩ => ?_
  unfold gmName at e
  split at e
  · rename_i hl
    cases e
    obtain ⟨F', x1, ok1, er1⟩ := er.put ok r hl
    exact q _ F' x1 ok1 er1 (Pin.set hP)
  · cases e
theorem pgqs_nil : PGs X [] (tGs X.K P gmNil) := by
  refine pgs_nil.imp fun vs σ H Q ⟨Z, env, F, ts, G, ok, er, r, env', e, q⟩ => ?_
  cases r with
  | nil =>
    cases e
    exact ⟨rfl, q σ F (by simpa using Ext.refl) (by simpa using ok) er Pin.refl⟩
  | cons _ _ => cases e
theorem pgqs_cons {e : Expr} {es : List Expr} {s : GM} {r : List T → En → Option En} (h1 : PGQ X P e s) (h2 : PGs X es (tGs X.K P r)) (hs : (assignEach (e :: es) X.env).map (·.2) = assign e X.env :: (assignEach es X.env).map (·.2) := by rfl) :
    PGs X (e :: es) (tGs X.K P (gmCons s r)) := by
  refine (pgs_cons h1 h2 hs).imp fun vs σ H Q ⟨Z, env, F, ts, G, ok, er, rr, env', e, q⟩ => ?_
  cases rr with
  | nil => cases e
  | @cons t v ts vs G1 G2 a b =>
    simp only [gmCons] at e
    split at e
    · cases e
    · rename_i e1 he1
      have ok' : Ok Z H ((F ++ G1) ++ G2) := by rw [List.append_assoc]; exact ok
      refine ⟨v, vs, rfl, Z, env, F, t, G1, ok'.left, er, a, e1, he1, fun σ' F' x1 ok1 er1 pn => ?_⟩
      refine ⟨Z, e1, F', ts, G2, Ok.beside x1 ok1 ok', er1, b, env', e, fun σ2 F2 x2 ok2 er2 pn2 => q σ2 F2 ?_ ok2 er2 (pn.trans pn2)⟩
      have z := (x1.wide (G := G2)).trans x2
      rw [List.append_assoc] at z
      exact z
theorem pgq_tup {es : List Expr} {k : Nat} {r : List T → En → Option En} {n : Nat} (hc : X.calm = true) (h : PGs X es (tGs X.K P r))
    (hn : (assignEach es X.env).length = n := by rfl) (hst : (assignEach es X.env).findIdx? (·.1) = none := by rfl) : PGQ X P (.Tuple es k pos) (gmTup n r) := by
  refine (pg_tup hc h hn hst).imp fun v σ H Q ⟨Z, env, F, t, G, ok, er, rr, env', e, q⟩ => ?_
  unfold gmTup at e
  split at e
  · rename_i ds
    split at e
    · rename_i hl
      cases rr with
      | z rr =>
        cases rr with
        | tup hq rr =>
          refine ⟨_, _, rfl, SqT.of hq, by rw [← rr.length]; exact hl, Z, env, F, ds.map .z, [], by simpa using ok, er, reps_z rr, env', e, fun σ' F' x1 => q σ' F' (by simpa using x1)⟩
    · cases e
  · rename_i ts
    split at e
    · rename_i hl
      cases rr with
      | tup hq rr =>
        exact ⟨_, _, rfl, SqT.of hq, by rw [← rr.length]; exact hl, Z, env, F, ts, G, ok, er, rr, env', e, q⟩
    · cases e
  · cases e
end
/-- target = e, any target -/
def sAsg (s : GM) (f : EM Opd) : SM := fun env => match f env with
  | none => none
  | some (.ex x e) => some (.ex x e)
  | some (.ok o e) => match o.take e with
    | none => none
    | some (t, e') => match s t e' with
      | none => none
      | some e2 => some (.nx e2)
section
variable {K : PySem.W.Frag} {W : WX} {P : List Nat} {D : Ends} {σ : L2.St} {H : Hp} {f : EM Opd} {s : GM}
theorem asgG_ok (q : tS K W P (sAsg s f) D σ H) : tQ K W false f σ H fun x H1 => tG K P s x σ H1 D.nx := by
  obtain ⟨Z, env, F, ok, er, o, ho, post⟩ := q
  unfold sAsg at ho
  split at ho
  · cases ho
  · rename_i x e hf
    cases ho
    exact ⟨Z, env, F, ok, er, _, hf, fun d H' Z' F' a b c f => post d σ H' Z' F' a b c f Pin.refl⟩
  · rename_i o e hf
    split at ho
    · cases ho
    · rename_i t e' ht
      split at ho
      · cases ho
      · rename_i e2 he2
        cases ho
        refine ⟨Z, env, F, ok, er, _, hf, fun v H1 Z1 F1 G1 x1 ok1 er1 or1 _ => ?_⟩
        obtain ⟨Z2, F2, G2, x2, ok2, er2, r2⟩ := take_ok ok1 er1 or1 ht
        exact ⟨Z2, e', F2, t, G2, ok2, er2, r2, e2, he2, fun σ' F' x3 ok3 er3 pn => post σ' H1 Z2 F' ((x1.trans x2).trans x3) ok3 er3 pn⟩
end
theorem psq_asg {X : Cx} {W : WX} {P : List Nat} {tg e : Expr} {pos : Pos} {p : Bool} {f : EM Opd} {s : GM} (he : PQ X W p e f) (hg : PGQ X P tg s) (hs : swapsWithSole [tg] e pos.line X.env = pure false := by rfl) (hw : swappedStores [tg] e X.env = pure none := by rfl)
    (h1 : (assignEach [tg] X.env).map (·.2) = [assign tg X.env] := by rfl) : PSQ X W P (.Assign [tg] e pos) (sAsg s f) :=
  (ps_asg he hg hs hw h1).imp fun D σ H q => tQ_any (asgG_ok q)

/-! ### for -/
def forF (s : GM) (g : SM) : List D → SM
  | [], env => some (.nx env)
  | d :: ds, env => match s (.z d) env with
    | none => none
    | some e1 => match g e1 with
      | some (.nx e) => forF s g ds e
      | some (.ct e) => forF s g ds e
      | some (.bk e) => some (.nx e)
      | o => o
section
variable {K : PySem.W.Frag} {W : WX} {P P' : List Nat} {D : Ends} {σ : L2.St} {Z H : Hp} {F : List Addr} {g : SM} {s : GM} {ds : List DL.D} {vs : List V} {env : En} {o : Out}
/-- a turn -/
theorem for_turn {i : Nat} {x : V} (hx : vs[i]? = some x) {σ1 : L2.St} {H1 Z1 : Hp} {F1 : List Addr} {env1 : En} (ok1 : Ok Z1 H1 F1) (er1 : EnvR K Z1 H1 env1 σ1 F1) (x1 : Ext Z H F Z1 H1 F1) (okF : Ok Z H F) (pn : Pin P' σ σ1) (rs : Reps K Z H ds vs)
    (e : forF s g (ds.drop i) env1 = some o) (post : PostS K W P' D σ Z H F o)
    (N : L2.St → Hp → Prop) (hN : ∀ σ' H' Z' F' env', Ok Z' H' F' → EnvR K Z' H' env' σ' F' → Ext Z H F Z' H' F' → Pin P' σ σ' → forF s g (ds.drop (i + 1)) env' = some o → N σ' H') :
    tG K P' s x σ1 H1 fun σ2 H2 => tS K W P' g { D with nx := N, ct := N, bk := D.nx } σ2 H2 := by
  have hi : i < ds.length := by
    rw [rs.length]
    exact (List.getElem?_eq_some_iff.mp hx).1
  obtain ⟨v, hv, rd⟩ := rs.get (i := i) (d := ds[i]) (by simp [hi])
  rw [hx] at hv
  have hv' := Option.some.inj hv
  subst hv'
  rw [List.drop_eq_getElem_cons hi] at e
  unfold forF at e
  split at e
  · cases e
  · rename_i e1 he1
    refine ⟨Z1, env1, F1, .z ds[i], [], by simpa using ok1, er1, .z (rd.mono x1.zz (x1.tt okF)), e1, he1, fun σ2 F2 x2 ok2 er2 pn2 => ?_⟩
    have x12 : Ext Z H F Z1 H1 F2 := x1.trans (by simpa using x2)
    split at e
    · rename_i e2 hg
      exact ⟨Z1, e1, F2, ok2, er2, _, hg, fun σ' H' Z' F' a b c d => hN σ' H' Z' F' e2 b c (x12.trans a) ((pn.trans pn2).trans d) e⟩
    · rename_i e2 hg
      exact ⟨Z1, e1, F2, ok2, er2, _, hg, fun σ' H' Z' F' a b c d => hN σ' H' Z' F' e2 b c (x12.trans a) ((pn.trans pn2).trans d) e⟩
    · rename_i e2 hg
      cases e
      exact ⟨Z1, e1, F2, ok2, er2, _, hg, fun σ' H' Z' F' a b c d => post σ' H' Z' F' (x12.trans a) b c ((pn.trans pn2).trans d)⟩
    · rename_i n1 n2 n3
      have pt := post.then x12 (pn.trans pn2)
      refine ⟨Z1, e1, F2, ok2, er2, _, e, ?_⟩
      cases o with
      | nx e' => exact (n1 e' e).elim
      | ct e' => exact (n2 e' e).elim
      | bk e' => exact (n3 e' e).elim
      | rt t e' => exact pt
      | ex x e' => exact pt
theorem for_listD {a : Addr} (okF : Ok Z H F) (er : EnvR K Z H env σ F) (rs : Reps K Z H ds vs) (hl : ∀ Z' H' F', Ext Z H F Z' H' F' → SqL K H' a vs) (e : forF s g ds env = some o) (post : PostS K W P' D σ Z H F o) :
    ∃ W' : Nat → Nat → L2.St → Hp → Prop, (∃ m, W' 0 m σ H) ∧ ∀ i m σ H, W' i m σ H →
      ((Itl K a).stop i H ∧ D.nx σ H) ∨ ((Itl K a).go i H ∧ ∃ N : L2.St → Hp → Prop, (∀ σ' H', N σ' H' → ∃ m', m' < m ∧ W' (i + 1) m' σ' H') ∧ ∀ x H', (Itl K a).yld i H x H' → tG K P' s x σ H' fun σ2 H2 => tS K W P' g { D with nx := N, ct := N, bk := D.nx } σ2 H2) := by
  refine for_list (K := K) (a := a) (xs := vs) (fun i σ' H' => ∃ Z' env' F', Ok Z' H' F' ∧ EnvR K Z' H' env' σ' F' ∧ Ext Z H F Z' H' F' ∧ Pin P' σ σ' ∧ forF s g (ds.drop i) env' = some o)
    ⟨Z, env, F, okF, er, Ext.refl, Pin.refl, by simpa using e⟩ (fun i σ' H' _ ⟨Z', env', F', _, _, x, _⟩ => hl Z' H' F' x) (fun i x σ1 H1 hx ⟨Z1, env1, F1, ok1, er1, x1, pn, e1⟩ => ?_) (fun σ1 H1 ⟨Z1, env1, F1, ok1, er1, x1, pn, e1⟩ => ?_)
  · exact for_turn hx ok1 er1 x1 okF pn rs e1 post _ fun σ' H' Z' F' env' a b c d f => ⟨Z', env', F', a, b, c, d, f⟩
  · rw [← rs.length, List.drop_length] at e1
    cases e1
    exact post σ1 H1 Z1 F1 x1 ok1 er1 pn
theorem for_tupD {a : Addr} (okF : Ok Z H F) (er : EnvR K Z H env σ F) (rs : Reps K Z H ds vs) (hl : ∀ Z' H' F', Ext Z H F Z' H' F' → SqT K H' a vs) (e : forF s g ds env = some o) (post : PostS K W P' D σ Z H F o) :
    ∃ W' : Nat → Nat → L2.St → Hp → Prop, (∃ m, W' 0 m σ H) ∧ ∀ i m σ H, W' i m σ H →
      ((Itt K a).stop i H ∧ D.nx σ H) ∨ ((Itt K a).go i H ∧ ∃ N : L2.St → Hp → Prop, (∀ σ' H', N σ' H' → ∃ m', m' < m ∧ W' (i + 1) m' σ' H') ∧ ∀ x H', (Itt K a).yld i H x H' → tG K P' s x σ H' fun σ2 H2 => tS K W P' g { D with nx := N, ct := N, bk := D.nx } σ2 H2) := by
  refine for_tup (K := K) (a := a) (xs := vs) (fun i σ' H' => ∃ Z' env' F', Ok Z' H' F' ∧ EnvR K Z' H' env' σ' F' ∧ Ext Z H F Z' H' F' ∧ Pin P' σ σ' ∧ forF s g (ds.drop i) env' = some o)
    ⟨Z, env, F, okF, er, Ext.refl, Pin.refl, by simpa using e⟩ (fun i σ' H' _ ⟨Z', env', F', _, _, x, _⟩ => hl Z' H' F' x) (fun i x σ1 H1 hx ⟨Z1, env1, F1, ok1, er1, x1, pn, e1⟩ => ?_) (fun σ1 H1 ⟨Z1, env1, F1, ok1, er1, x1, pn, e1⟩ => ?_)
  · exact for_turn hx ok1 er1 x1 okF pn rs e1 post _ fun σ' H' Z' F' env' a b c d f => ⟨Z', env', F', a, b, c, d, f⟩
  · rw [← rs.length, List.drop_length] at e1
    cases e1
    exact post σ1 H1 Z1 F1 x1 ok1 er1 pn
/-- lo, lo + 1, .. as data -/
def rngD (lo : Int) : Nat → List DL.D
  | 0 => []
  | n + 1 => .int lo :: rngD (lo + 1) n
theorem rngD_length (lo : Int) (n : Nat) : (rngD lo n).length = n := by
  induction n generalizing lo with
  | zero => rfl
  | succ n ih => simp [rngD, ih]
theorem rngD_get (lo : Int) (n i : Nat) (h : i < n) : (rngD lo n)[i]? = some (.int (lo + i)) := by
  induction n generalizing lo i with
  | zero => omega
  | succ n ih =>
    cases i with
    | zero => simp [rngD]
    | succ i =>
      simp only [rngD, List.getElem?_cons_succ]
      rw [ih (lo + 1) i (by omega)]
      congr 2
      push_cast
      omega
theorem for_rngD {lo : Int} {n : Nat} (okF : Ok Z H F) (er : EnvR K Z H env σ F) (e : forF s g (rngD lo n) env = some o) (post : PostS K W P' D σ Z H F o) :
    ∃ W' : Nat → Nat → L2.St → Hp → Prop, (∃ m, W' 0 m σ H) ∧ ∀ i m σ H, W' i m σ H →
      ((Itr lo n).stop i H ∧ D.nx σ H) ∨ ((Itr lo n).go i H ∧ ∃ N : L2.St → Hp → Prop, (∀ σ' H', N σ' H' → ∃ m', m' < m ∧ W' (i + 1) m' σ' H') ∧ ∀ x H', (Itr lo n).yld i H x H' → tG K P' s x σ H' fun σ2 H2 => tS K W P' g { D with nx := N, ct := N, bk := D.nx } σ2 H2) := by
  have rs : Reps K Z H (rngD lo n) ((List.range n).map fun i : Nat => V.int (lo + (i : Int))) := by
    have : ∀ (n : Nat) (lo : Int), Reps K Z H (rngD lo n) ((List.range n).map fun i : Nat => V.int (lo + (i : Int))) := by
      intro n
      induction n with
      | zero => intro lo; exact .nil
      | succ n ih =>
        intro lo
        rw [List.range_succ_eq_map, List.map_cons, List.map_map]
        refine .cons (by simpa using Rep.int) ?_
        have z := ih (lo + 1)
        have e : (List.map (fun i : Nat => V.int (lo + 1 + (i : Int))) (List.range n)) = List.map ((fun i : Nat => V.int (lo + (i : Int))) ∘ Nat.succ) (List.range n) := by
          apply List.map_congr_left
          intro i _
          simp only [Function.comp]
          congr 1
          push_cast
          omega
        rw [← e]; exact z
    exact this n lo
  refine for_range (lo := lo) (n := n) (fun i σ' H' => ∃ Z' env' F', Ok Z' H' F' ∧ EnvR K Z' H' env' σ' F' ∧ Ext Z H F Z' H' F' ∧ Pin P' σ σ' ∧ forF s g ((rngD lo n).drop i) env' = some o)
    ⟨Z, env, F, okF, er, Ext.refl, Pin.refl, by simpa using e⟩ (fun i σ1 H1 hi ⟨Z1, env1, F1, ok1, er1, x1, pn, e1⟩ => ?_) (fun σ1 H1 ⟨Z1, env1, F1, ok1, er1, x1, pn, e1⟩ => ?_)
  · exact for_turn (i := i) (by simp [hi]) ok1 er1 x1 okF pn rs e1 post _ fun σ' H' Z' F' env' a b c d f => ⟨Z', env', F', a, b, c, d, f⟩
  · have hl : (rngD lo n).drop n = [] := by rw [List.drop_eq_nil_iff, rngD_length]; exact Nat.le_refl _
    rw [hl] at e1
    cases e1
    exact post σ1 H1 Z1 F1 x1 ok1 er1 pn
end

/-! ### what a for walks -/
def iAny (K : PySem.W.Frag) (tl : TE) : TI := fun σ H R => tl σ H fun x H1 => ∃ a, x = .ref a ∧ (((∃ xs, SqL K H1 a xs) ∧ R (Itl K a) H1) ∨ ((∃ xs, SqT K H1 a xs) ∧ R (Itt K a) H1))
theorem pi_any {X : Cx} {tg l : Expr} {tl : TE} (hl : PE X l tl) : PI X tg l (iAny X.K tl) := by
  refine ⟨fun pins s σ H R I h => ?_⟩
  refine thn (hl.run pins s σ H _ I h) fun v s1 ⟨x, H1, I1, r1, q1⟩ => ?_
  obtain ⟨a, e, q⟩ := q1
  subst e
  cases r1
  rcases q with ⟨⟨xs, hq⟩, q⟩ | ⟨⟨xs, hq⟩, q⟩
  · obtain ⟨its, rv, p, hz⟩ := I1.list hq
    refine wpAny_pyIter_list p.isList ?_
    refine ⟨s1.heap.objs.size, [s1.heap.objs.size], _, _, H1, rfl, I1.kept (t' := s1.toks) fun b o e => Heap.get?_push_of_some _ e, turn_list a _, ⟨_, Heap.get?_push_size _ rfl, rfl, rfl⟩, fun b hb => ?_, q⟩
    have e : b = s1.heap.objs.size := by simpa using hb
    subst e
    exact I1.fpOk (Nat.le_refl _) (I1.hok.fresh (Nat.le_refl _))
  · obtain ⟨its, rv, p, hz⟩ := I1.tuple hq
    refine wpAny_pyIter_tuple (show s1.heap.IsTuple a its.toArray from p) ?_
    refine ⟨s1.heap.objs.size, [s1.heap.objs.size], _, _, H1, rfl, I1.kept (t' := s1.toks) fun b o e => Heap.get?_push_of_some _ e, turn_tuple a _, ⟨_, Heap.get?_push_size _ rfl, rfl, rfl⟩, fun b hb => ?_, q⟩
    have e : b = s1.heap.objs.size := by simpa using hb
    subst e
    exact I1.fpOk (Nat.le_refl _) (I1.hok.fresh (Nat.le_refl _))
@[simp] def T.els (u : T) : Option (List D) := match u.elsL with
  | some ds => some ds
  | none => match u.elsK with
    | some ds => some ds
    | none => u.elsT
def sFor (fi : EM Opd) (s : GM) (g : SM) : SM := fun env => match fi env with
  | none => none
  | some (.ex x e) => some (.ex x e)
  | some (.ok (.t u) e) => match u.els with
    | some ds => forF s g ds e
    | none => none
  | some (.ok _ _) => none
@[simp] def back (i : Nat) (u : T) : Option Out → Option Out
  | some (.nx e) => some (.nx (e.set i (some u)))
  | some (.ex x e) => some (.ex x (e.set i (some u)))
  | o => o
def sForN (i : Nat) (s : GM) (g : SM) : SM := fun env => match env[i]? with
  | some (some (.z d)) => match (T.z d).els with
    | some ds => forF s g ds env
    | none => none
  | some (some u) => match u.els with
    | some ds => back i u (forF s g ds (env.set i none))
    | none => none
  | _ => none
@[simp] noncomputable def gRng1 : List D → Option (Int × Nat)
  | [.int j] => if inB 62 j = true then some (0, j.toNat) else none
  | _ => none
@[simp] noncomputable def gRng2 : List D → Option (Int × Nat)
  | [.int i, .int j] => if inB 62 i = true ∧ inB 62 j = true then some (i, (j - i).toNat) else none
  | _ => none
def sForR (gr : List D → Option (Int × Nat)) (fr : EM (List Opd)) (s : GM) (g : SM) : SM := fun env => match fr env with
  | none => none
  | some (.ex x e) => some (.ex x e)
  | some (.ok os e) => match rds e os with
    | none => none
    | some ds => match gr ds with
      | none => none
      | some (lo, n) => forF s g (rngD lo n) e
section
variable {K : PySem.W.Frag} {Z H : Hp} {σ : L2.St} {u : T} {v : V} {G F : List Addr} {ds : List D}
/-- what a T's items are, and that the sequence stays while what is owned beside is written -/
theorem els_stay (r : RepT K Z H u v G) (ok : Ok Z H (F ++ G)) (e : u.els = some ds) : ∃ a vs, v = .ref a ∧ Reps K Z H ds vs ∧
    ((∀ Z' H' F', Ext Z H F Z' H' F' → Ok Z' H' F' → SqL K H' a vs) ∨ (∀ Z' H' F', Ext Z H F Z' H' F' → SqT K H' a vs)) := by
  have nF : ∀ a ∈ G, a ∉ F := fun a h m => (List.nodup_append.mp ok.nod).2.2 a m a h rfl
  unfold T.els at e
  split at e
  · rename_i ds' e'
    cases e
    cases r with
    | z r =>
      cases r <;> first | (simp [T.elsL] at e'; done) | skip
      rename_i a vs ds' h r
      simp only [T.elsL, Option.some.injEq] at e'; subst e'
      exact ⟨_, _, rfl, r, .inl fun Z' H' F' x ok' => SqL.of (ok'.sub _ _ (x.zz _ _ h))⟩
    | lst h r => exact ⟨_, _, rfl, zs_ok e' r, .inl fun Z' H' F' x _ => SqL.of (x.hh _ _ h (nF _ List.mem_cons_self))⟩
    | _ => simp [T.elsL] at e'
  · split at e
    · rename_i ds' e'
      cases e
      cases r with
      | z r =>
        cases r <;> first | (simp [T.elsK] at e'; done) | skip
        rename_i a vs ds' h r _
        simp only [T.elsK, Option.some.injEq] at e'; subst e'
        exact ⟨_, _, rfl, r, .inl fun Z' H' F' x ok' => SqL.mono ok'.sub (SqL.mono x.zz h)⟩
      | _ => simp [T.elsK] at e'
    · cases r with
      | z r =>
        cases r <;> first | (simp [T.elsT] at e; done) | skip
        rename_i a vs ds' h r _ _
        simp only [T.elsT, Option.some.injEq] at e; subst e
        exact ⟨_, _, rfl, r, .inr fun Z' H' F' x => SqT.of ((x.tt ok.left) _ _ h)⟩
      | tup h r => exact ⟨_, _, rfl, zs_ok e r, .inr fun Z' H' F' x => SqT.of ((x.tt ok.left) _ _ h)⟩
      | _ => simp [T.elsT] at e
end
section
variable {K : PySem.W.Frag} {W : WX} {P P' : List Nat} {D : Ends} {σ : L2.St} {H : Hp} {g : SM} {s : GM} {fi : EM Opd}
theorem PostS.pins {Z : Hp} {F : List Addr} {o : Out} (post : PostS K W P D σ Z H F o) (hP : ∀ i ∈ P, i ∈ P') : PostS K W P' D σ Z H F o := by
  cases o with
  | nx e => exact fun σ' H' Z' F' a b c d => post σ' H' Z' F' a b c (d.sub hP)
  | bk e => exact fun σ' H' Z' F' a b c d => post σ' H' Z' F' a b c (d.sub hP)
  | ct e => exact fun σ' H' Z' F' a b c d => post σ' H' Z' F' a b c (d.sub hP)
  | rt t e => exact fun v σ' H' Z' F' G a b c d f => post v σ' H' Z' F' G a b c d (f.sub hP)
  | ex y e => exact fun d σ' H' Z' F' a b c f g => post d σ' H' Z' F' a b c f (g.sub hP)
theorem for_run {Z : Hp} {F G : List Addr} {env : En} {u : T} {v : V} {ds : List DL.D} {o : Out} (ok : Ok Z H (F ++ G)) (er : EnvR K Z H env σ F) (r : RepT K Z H u v G) (e : u.els = some ds) (ef : forF s g ds env = some o) (post : PostS K W P' D σ Z H F o) :
    ∃ a, v = .ref a ∧ (((∃ xs, SqL K H a xs) ∧ ∃ W' : Nat → Nat → L2.St → Hp → Prop, (∃ m, W' 0 m σ H) ∧ ∀ i m σ H, W' i m σ H →
      ((Itl K a).stop i H ∧ D.nx σ H) ∨ ((Itl K a).go i H ∧ ∃ N : L2.St → Hp → Prop, (∀ σ' H', N σ' H' → ∃ m', m' < m ∧ W' (i + 1) m' σ' H') ∧ ∀ x H', (Itl K a).yld i H x H' → tG K P' s x σ H' fun σ2 H2 => tS K W P' g { D with nx := N, ct := N, bk := D.nx } σ2 H2)) ∨
      ((∃ xs, SqT K H a xs) ∧ ∃ W' : Nat → Nat → L2.St → Hp → Prop, (∃ m, W' 0 m σ H) ∧ ∀ i m σ H, W' i m σ H →
      ((Itt K a).stop i H ∧ D.nx σ H) ∨ ((Itt K a).go i H ∧ ∃ N : L2.St → Hp → Prop, (∀ σ' H', N σ' H' → ∃ m', m' < m ∧ W' (i + 1) m' σ' H') ∧ ∀ x H', (Itt K a).yld i H x H' → tG K P' s x σ H' fun σ2 H2 => tS K W P' g { D with nx := N, ct := N, bk := D.nx } σ2 H2))) := by
  obtain ⟨a, vs, rfl, rs, st⟩ := els_stay (F := F) r ok e
  refine ⟨a, rfl, ?_⟩
  rcases st with st | st
  · refine .inl ⟨⟨vs, st Z H F Ext.refl ok.left⟩, ?_⟩
    refine for_list (K := K) (a := a) (xs := vs) (fun i σ' H' => ∃ Z' env' F', Ok Z' H' F' ∧ EnvR K Z' H' env' σ' F' ∧ Ext Z H F Z' H' F' ∧ Pin P' σ σ' ∧ forF s g (ds.drop i) env' = some o)
      ⟨Z, env, F, ok.left, er, Ext.refl, Pin.refl, by simpa using ef⟩ (fun i σ' H' _ ⟨Z', env', F', ok', _, x, _⟩ => st Z' H' F' x ok') (fun i x σ1 H1 hx ⟨Z1, env1, F1, ok1, er1, x1, pn, e1⟩ => ?_) (fun σ1 H1 ⟨Z1, env1, F1, ok1, er1, x1, pn, e1⟩ => ?_)
    · exact for_turn hx ok1 er1 x1 ok.left pn rs e1 post _ fun σ' H' Z' F' env' a b c d f => ⟨Z', env', F', a, b, c, d, f⟩
    · rw [← rs.length, List.drop_length] at e1
      cases e1
      exact post σ1 H1 Z1 F1 x1 ok1 er1 pn
  · exact .inr ⟨⟨vs, st Z H F Ext.refl⟩, for_tupD ok.left er rs st ef post⟩
theorem forE_ok (hP : ∀ i ∈ P, i ∈ P') (q : tS K W P (sFor fi s g) D σ H) : tFor (iAny K (tQ K W false fi)) (tG K P' s) (tS K W P' g) D σ H := by
  obtain ⟨Z, env, F, ok, er, o, ho, post⟩ := q
  unfold sFor at ho
  split at ho
  · cases ho
  · rename_i x e hf
    cases ho
    exact ⟨Z, env, F, ok, er, _, hf, fun d H' Z' F' a b c f => post d σ H' Z' F' a b c f Pin.refl⟩
  · rename_i u e hf
    split at ho
    · rename_i ds hd
      refine ⟨Z, env, F, ok, er, _, hf, fun v H1 Z1 F1 G1 x1 ok1 er1 or1 _ => ?_⟩
      cases or1 with
      | t r => exact for_run ok1 er1 r hd ho ((post.then (x1.sub fun a ha => List.mem_append_left _ ha) Pin.refl).pins hP)
    · cases ho
  · cases ho
theorem forN_ok {i : Nat} (hP : ∀ j ∈ P, j ∈ P') (hi : i ∈ P') (q : tS K W P (sForN i s g) D σ H) : tFor (iAny K (tVar i)) (tG K P' s) (tS K W P' g) D σ H := by
  obtain ⟨Z, env, F, ok, er, o, ho, post⟩ := q
  unfold sForN at ho
  split at ho
  · rename_i d he
    split at ho
    · rename_i ds hd
      obtain ⟨v, Fi, h1, h2, _⟩ := er.at he
      cases h2 with
      | z h2 => exact ⟨v, h1, for_run (G := []) (by simpa using ok) er (.z h2) hd ho (post.pins hP)⟩
    · cases ho
  · rename_i u _ he
    split at ho
    · rename_i ds hd
      obtain ⟨A, Fi, B, o', e1, e2, e3, e4⟩ := er.lens he
      cases e3 with
      | @so _ v _ r =>
        have hil : i < env.length := (List.getElem?_eq_some_iff.mp he).1
        have setσ : ∀ σ' : L2.St, σ'[i]? = some (some v) → σ'.set i (some v) = σ' := fun σ' h => by
          apply List.ext_getElem?
          intro j
          by_cases hj : i = j
          · subst hj
            obtain ⟨hl, _⟩ := List.getElem?_eq_some_iff.mp h
            rw [List.getElem?_set_self hl, h]
          · rw [List.getElem?_set_ne hj]
        have er0 := e4 Z H (fun _ _ z => z) (fun _ _ z => z) (fun _ _ _ z => z) none (some v) [] .no
        rw [setσ σ e2] at er0
        simp only [List.append_nil] at er0
        subst e1
        have pm : (A ++ Fi ++ B).Perm ((A ++ B) ++ Fi) := by
          simp only [List.append_assoc]
          exact List.Perm.append_left A List.perm_append_comm
        have ok0 : Ok Z H ((A ++ B) ++ Fi) := ok.perm pm
        have sub0 : Ext Z H (A ++ Fi ++ B) Z H ((A ++ B) ++ Fi) := Ext.subF fun a ha => pm.mem_iff.mpr ha
        -- putting it back
        have put : ∀ {e : En} {σ' : L2.St} {H' Z' : Hp} {F' : List Addr}, Ext Z H (A ++ B) Z' H' F' → Ok Z' H' F' → EnvR K Z' H' e σ' F' → Pin P' σ σ' →
            ∃ F2, Ext Z H (A ++ Fi ++ B) Z' H' F2 ∧ Ok Z' H' F2 ∧ EnvR K Z' H' (e.set i (some u)) σ' F2 := fun {e σ' H' Z' F'} x ok' er' pn => by
          have okb := Ok.beside x ok' ok0
          have r' := r.frame x ok0
          have hl' : i < e.length := by
            rw [er'.length]
            have := pn.2 i hi
            rw [e2] at this
            exact (List.getElem?_eq_some_iff.mp this).1
          obtain ⟨F2, x2, ok2, er2⟩ := er'.put okb r' hl'
          rw [setσ σ' ((pn.2 i hi).trans e2)] at er2
          exact ⟨F2, (sub0.trans (x.wide (G := Fi))).trans x2, ok2, er2⟩
        refine ⟨v, e2, ?_⟩
        generalize hfo : forF s g ds (env.set i none) = fo at ho
        cases fo with
        | none => cases ho
        | some fo =>
          refine for_run ok0 er0 r hd hfo ?_
          cases fo with
          | nx e =>
            cases ho
            exact fun σ' H' Z' F' x ok' er' pn => by
              obtain ⟨F2, h1, h2, h3⟩ := put x ok' er' pn
              exact post σ' H' Z' F2 h1 h2 h3 (pn.sub hP)
          | bk e =>
            cases ho
            exact fun σ' H' Z' F' x ok' er' pn => post σ' H' Z' F' ((Ext.subF fun a ha => by simp only [List.mem_append] at ha ⊢; rcases ha with h | h; exact .inl (.inl h); exact .inr h).trans x) ok' er' (pn.sub hP)
          | ct e =>
            cases ho
            exact fun σ' H' Z' F' x ok' er' pn => post σ' H' Z' F' ((Ext.subF fun a ha => by simp only [List.mem_append] at ha ⊢; rcases ha with h | h; exact .inl (.inl h); exact .inr h).trans x) ok' er' (pn.sub hP)
          | rt t e =>
            cases ho
            exact fun v σ' H' Z' F' G x ok' er' r' pn => post v σ' H' Z' F' G ((Ext.subF fun a ha => by simp only [List.mem_append] at ha ⊢; rcases ha with h | h; exact .inl (.inl h); exact .inr h).trans x) ok' er' r' (pn.sub hP)
          | ex y e =>
            cases ho
            exact fun d σ' H' Z' F' x ok' er' xr pn => by
              obtain ⟨F2, h1, h2, h3⟩ := put x ok' er' pn
              exact post d σ' H' Z' F2 h1 h2 h3 xr (pn.sub hP)
    · cases ho
  · cases ho
theorem forR1_ok {p : Bool} {fr : EM (List Opd)} (hP : ∀ i ∈ P, i ∈ P') (q : tS K W P (sForR gRng1 fr s g) D σ H) : tFor (iRng1 (tAQ K W false fr)) (tG K P' s) (tS K W P' g) D σ H := by
  obtain ⟨Z, env, F, ok, er, o, ho, post⟩ := q
  unfold sForR at ho
  split at ho
  · cases ho
  · rename_i x e hf
    cases ho
    exact ⟨Z, env, F, ok, er, _, hf, fun d H' Z' F' a b c f => post d σ H' Z' F' a b c f Pin.refl⟩
  · rename_i os e hf
    split at ho
    · cases ho
    · rename_i ds hd
      split at ho
      · cases ho
      · rename_i lo n hg
        refine ⟨Z, env, F, ok, er, _, hf, fun vs H1 Z1 F1 G1 x1 ok1 er1 or1 _ => ?_⟩
        have rd := or1.look ok1.sub er1 hd
        unfold gRng1 at hg
        split at hg
        · rename_i j
          split at hg
          · rename_i hj
            cases hg
            obtain ⟨x, rfl, r1⟩ := rd.one
            have := r1.v_int; subst this
            have hj := inB_iff.mp hj
            exact ⟨j, rfl, hj.1, hj.2, for_rngD ok1.left er1 ho ((post.then (x1.sub fun a ha => List.mem_append_left _ ha) Pin.refl).pins hP)⟩
          · cases hg
        · cases hg
theorem forR2_ok {p : Bool} {fr : EM (List Opd)} (hP : ∀ i ∈ P, i ∈ P') (q : tS K W P (sForR gRng2 fr s g) D σ H) : tFor (iRng2 (tAQ K W false fr)) (tG K P' s) (tS K W P' g) D σ H := by
  obtain ⟨Z, env, F, ok, er, o, ho, post⟩ := q
  unfold sForR at ho
  split at ho
  · cases ho
  · rename_i x e hf
    cases ho
    exact ⟨Z, env, F, ok, er, _, hf, fun d H' Z' F' a b c f => post d σ H' Z' F' a b c f Pin.refl⟩
  · rename_i os e hf
    split at ho
    · cases ho
    · rename_i ds hd
      split at ho
      · cases ho
      · rename_i lo n hg
        refine ⟨Z, env, F, ok, er, _, hf, fun vs H1 Z1 F1 G1 x1 ok1 er1 or1 _ => ?_⟩
        have rd := or1.look ok1.sub er1 hd
        unfold gRng2 at hg
        split at hg
        · rename_i i j
          split at hg
          · rename_i hj
            cases hg
            obtain ⟨x, y, rfl, r1, r2⟩ := rd.two
            have h1 := r1.v_int
            have h2 := r2.v_int
            subst h1 h2
            have hj1 := inB_iff.mp hj.1
            have hj2 := inB_iff.mp hj.2
            exact ⟨_, _, rfl, ⟨hj1.1, hj1.2, hj2.1, hj2.2⟩, for_rngD ok1.left er1 ho ((post.then (x1.sub fun a ha => List.mem_append_left _ ha) Pin.refl).pins hP)⟩
          · cases hg
        · cases hg
end
theorem tAQ_any {K : PySem.W.Frag} {W : WX} {p : Bool} {f : EM (List Opd)} {σ : L2.St} {H : Hp} {Q : List V → Hp → Prop} (h : tAQ K W false f σ H Q) : tAQ K W p f σ H Q := by
  obtain ⟨Z, env, F, ok, er, r, hr, post⟩ := h
  refine ⟨Z, env, F, ok, er, r, hr, ?_⟩
  cases r with
  | ok b e => exact fun v H' Z' F' G a b c d _ => post v H' Z' F' G a b c d fun z => nomatch z
  | ex x e => exact post
section
variable {X : Cx} {W : WX} {P : List Nat} {tg e e2 : Expr} {body : List Stmt} {pos p1 : Pos} {p : Bool} {f : EM Opd} {fr : EM (List Opd)} {s : GM} {g : SM}
theorem psq_forE (hp : PassesOwn (model X.prog X.w) X.A X.env X.xe) (hc : X.calm = true) (he : PQ X W p e f) (hg : PGQ X P tg s) (hb : PBQ X W P body g) (hs : ∀ x, foldedSetIterable e X.env x = pure x := by intro _; rfl) : PSQ X W P (.For tg e body [] pos) (sFor f s g) :=
  (ps_for hp hc (pi_any (he.imp fun _ _ _ z => tQ_any z : PQ X W false e f)) hg hb hs).imp fun D σ H q => forE_ok (fun _ h => h) q
theorem psq_forN {i : Nat} {x : Str} (hp : PassesOwn (model X.prog X.w) X.A X.env X.xe) (hc : X.calm = true) (he : PE X (.Name x p1) (tVar i)) (hg : PGQ X (i :: P) tg s) (hb : PBQ X W (i :: P) body g) : PSQ X W P (.For tg (.Name x p1) body [] pos) (sForN i s g) :=
  (ps_for hp hc (pi_any he) hg hb (by intro _; rfl)).imp fun D σ H q => forN_ok (fun _ h => List.mem_cons_of_mem _ h) List.mem_cons_self q
theorem psq_forR1 {pn : Pos} (hp : PassesOwn (model X.prog X.w) X.A X.env X.xe) (hc : X.calm = true) (hr : Gl X "range") (hm : X.mg "range" = none) (ha : PAQ X W p [e] fr) (hg : PGQ X P tg s) (hb : PBQ X W P body g) (hs : starEach [e] X.env = [(false, eval e X.env)] := by rfl) :
    PSQ X W P (.For tg (.Call (.Name "range" p1) [e] [] pn) body [] pos) (sForR gRng1 fr s g) :=
  (ps_for hp hc (pi_range1 hr hm (ha.imp fun _ _ _ z => tAQ_any z : PAQ X W false [e] fr) hs) hg hb (by intro _; rfl)).imp fun D σ H q => forR1_ok (p := p) (fun _ h => h) q
theorem psq_forR2 {pn : Pos} (hp : PassesOwn (model X.prog X.w) X.A X.env X.xe) (hc : X.calm = true) (hr : Gl X "range") (hm : X.mg "range" = none) (ha : PAQ X W p [e, e2] fr) (hg : PGQ X P tg s) (hb : PBQ X W P body g) (hs : starEach [e, e2] X.env = [(false, eval e X.env), (false, eval e2 X.env)] := by rfl) (hs2 : starEach [e2] X.env = [(false, eval e2 X.env)] := by rfl) :
    PSQ X W P (.For tg (.Call (.Name "range" p1) [e, e2] [] pn) body [] pos) (sForR gRng2 fr s g) :=
  (ps_for hp hc (pi_range2 hr hm (ha.imp fun _ _ _ z => tAQ_any z : PAQ X W false [e, e2] fr) hs hs2) hg hb (by intro _; rfl)).imp fun D σ H q => forR2_ok (p := p) (fun _ h => h) q
end
end DL

/-! DL8: displays, defs, calls. -/
namespace DL
open PySem PySem.Spec PyProof.Rows L2

/-! ### many operands taken -/
@[simp] def takes : List Opd → En → Option (List T × En)
  | [], env => some ([], env)
  | o :: os, env => match o.take env with
    | none => none
    | some (t, e1) => match takes os e1 with
      | none => none
      | some (ts, e2) => some (t :: ts, e2)
section
variable {K : PySem.W.Frag} {σ : L2.St}
theorem OpdRs.later {Z H Z' H' : Hp} {F F' G : List Addr} {os : List Opd} {vs : List V} (r : OpdRs K Z H σ os vs G) (x : Ext Z H F Z' H' F') (ok : Ok Z H (F ++ G)) (g : Grow H H') : OpdRs K Z' H' σ os vs G := by
  induction r generalizing F F' with
  | nil => exact .nil
  | @cons o v G1 os vs G2 a b ih =>
    have ok1 : Ok Z H (F ++ G1) := ok.subF (by rw [← List.append_assoc]; exact List.sublist_append_left _ _)
    have ok2 : Ok Z H (F ++ G2) := ok.subF (List.Sublist.append_left (List.sublist_append_right _ _) F)
    exact .cons (a.later x ok1 (.inr g)) (ih x ok2)
theorem takes_ok {H : Hp} : ∀ {os : List Opd} {env env' : En} {ts : List T} {vs : List V} {Z : Hp} {F G : List Addr}, Ok Z H (F ++ G) → EnvR K Z H env σ F → OpdRs K Z H σ os vs G → takes os env = some (ts, env') →
    ∃ Z' F' G', Ext Z H (F ++ G) Z' H (F' ++ G') ∧ Ok Z' H (F' ++ G') ∧ EnvR K Z' H env' σ F' ∧ RepTs K Z' H ts vs G'
  | [], env, env', ts, vs, Z, F, G, ok, er, r, e => by
    simp only [takes, Option.some.injEq, Prod.mk.injEq] at e
    obtain ⟨rfl, rfl⟩ := e
    cases r
    exact ⟨Z, F, [], Ext.refl, ok, er, .nil⟩
  | o :: os, env, env', ts, vs, Z, F, G, ok, er, r, e => by
    cases r with
    | @cons _ v G1 _ vs G2 a b =>
      simp only [takes] at e
      split at e
      · cases e
      · rename_i t e1 h1
        split at e
        · cases e
        · rename_i ts' e2 h2
          simp only [Option.some.injEq, Prod.mk.injEq] at e
          obtain ⟨rfl, rfl⟩ := e
          have ok' : Ok Z H ((F ++ G1) ++ G2) := by rw [List.append_assoc]; exact ok
          obtain ⟨Z1, F1, G1', x1, ok1, er1, r1⟩ := take_ok ok'.left er a h1
          have okb : Ok Z1 H ((F1 ++ G1') ++ G2) := Ok.beside x1 ok1 ok'
          have pm1 : ((F1 ++ G1') ++ G2).Perm ((F1 ++ G2) ++ G1') := by
            simp only [List.append_assoc]
            exact List.Perm.append_left F1 List.perm_append_comm
          have okc : Ok Z1 H ((F1 ++ G2) ++ G1') := okb.perm pm1
          have b' : OpdRs K Z1 H σ os vs G2 := by
            have okx : Ok Z H ((F ++ G1) ++ G2) := ok'
            exact b.later x1 okx (fun _ _ z => z)
          obtain ⟨Z2, F2, G2', x2, ok2, er2, r2⟩ := takes_ok okc.left er1 b' h2
          have okd : Ok Z2 H ((F2 ++ G2') ++ G1') := Ok.beside x2 ok2 okc
          have pm2 : ((F2 ++ G2') ++ G1').Perm (F2 ++ (G1' ++ G2')) := by
            rw [List.append_assoc]
            exact List.Perm.append_left F2 List.perm_append_comm
          refine ⟨Z2, F2, G1' ++ G2', ?_, okd.perm pm2, er2, .cons (r1.frame x2 okc) r2⟩
          have xa : Ext Z H ((F ++ G1) ++ G2) Z1 H ((F1 ++ G1') ++ G2) := x1.wide
          have xb : Ext Z1 H ((F1 ++ G2) ++ G1') Z2 H ((F2 ++ G2') ++ G1') := x2.wide
          have xc := (xa.sub fun a ha => pm1.mem_iff.mpr ha).trans xb
          have xd := xc.sub (F2 := F2 ++ (G1' ++ G2')) fun a ha => pm2.mem_iff.mpr ha
          rw [List.append_assoc] at xd
          exact xd
end

/-! ### displays -/
@[simp] def mkTup (ts : List T) : T := match zs ts with
  | some ds => .z (.tup ds)
  | none => .tup ts
def sTake (h : List T → Option T) (fr : EM (List Opd)) : EM Opd := fun env => match fr env with
  | none => none
  | some (.ex x e) => some (.ex x e)
  | some (.ok os e) => match takes os e with
    | none => none
    | some (ts, e') => match h ts with
      | none => none
      | some t => some (.ok (.t t) e')
@[simp] def hTup (ts : List T) : Option T := if ts.length ≤ sizeLine then some (mkTup ts) else none
@[simp] def hLst (ts : List T) : Option T := if ts.length ≤ sizeLine then some (.lst ts) else none
theorem zs_noF {K : PySem.W.Frag} {Z H : Hp} : ∀ {ts : List T} {ds : List D} {vs : List V} {F : List Addr}, zs ts = some ds → RepTs K Z H ts vs F → F = []
  | [], _, _, _, e, r => by cases r; rfl
  | .z d :: ts, _, _, _, e, r => by
    simp only [zs] at e
    split at e
    · rename_i ds' e'
      cases r with
      | cons a b => cases a with | z a => simpa using zs_noF e' b
    · cases e
  | .tup _ :: _, _, _, _, e, _ => by simp [zs] at e
  | .lst _ :: _, _, _, _, e, _ => by simp [zs] at e
  | .dic _ _ _ :: _, _, _, _, e, _ => by simp [zs] at e
  | .obj _ _ _ :: _, _, _, _, e, _ => by simp [zs] at e
section
variable {K : PySem.W.Frag} {W : WX} {σ : L2.St} {H : Hp} {fr : EM (List Opd)} {Q : VK}
theorem RepTs.grown {Z H' : Hp} {ts : List T} {vs : List V} {F : List Addr} (r : RepTs K Z H ts vs F) (g : Grow H H') : RepTs K Z H' ts vs F := r.keep (fun _ _ h => h) g.tt fun a _ o h => g a o h
theorem dispT_ok (q : tQ K W false (sTake hTup fr) σ H Q) : tTup (tAQ K W false fr) σ H Q := by
  obtain ⟨Z, env, F, ok, er, r, hr, post⟩ := q
  unfold sTake at hr
  split at hr
  · cases hr
  · rename_i x e hf
    cases hr
    exact ⟨Z, env, F, ok, er, _, hf, post⟩
  · rename_i os e hf
    split at hr
    · cases hr
    · rename_i ts e' ht
      unfold hTup at hr
      split at hr
      · cases hr
      · rename_i t hh
        cases hr
        split at hh
        · rename_i hl
          cases hh
          refine ⟨Z, env, F, ok, er, _, hf, fun vs H1 Z1 F1 G1 x1 ok1 er1 or1 _ => ?_⟩
          obtain ⟨Z2, F2, G2, x2, ok2, er2, r2⟩ := takes_ok ok1 er1 or1 ht
          refine ⟨by rw [← r2.length]; exact hl, fun p hp => ?_⟩
          have g := grow_upd (o := .tup vs) hp
          have nF : ∀ a ∈ F2 ++ G2, a ≠ p := fun a ha e => by
            subst e
            have m := ok2.mu a ha
            rw [hp] at m; exact m
          have ok3 : Ok Z2 (upd H1 p (.tup vs)) (F2 ++ G2) := ⟨fun a o h => g a o (ok2.sub a o h), ok2.nod, ok2.dis, fun a ha => by rw [upd_ne (nF a ha)]; exact ok2.mu a ha⟩
          have x3 : Ext Z2 H1 (F2 ++ G2) Z2 (upd H1 p (.tup vs)) (F2 ++ G2) := ⟨fun _ _ h => h, fun a o h _ => g a o h, fun a h => .inl h, fun _ _ h => .inl h⟩
          have rt : ∃ G3, RepT K Z2 (upd H1 p (.tup vs)) (mkTup ts) (.ref p) G3 ∧ G3 = G2 := by
            unfold mkTup
            split
            · rename_i ds hz
              have e0 := zs_noF hz r2
              exact ⟨[], .z (.tup upd_same ((zs_ok hz r2).grown g)), e0.symm⟩
            · exact ⟨G2, .tup upd_same (r2.grown g), rfl⟩
          obtain ⟨G3, rt, rfl⟩ := rt
          exact post (.ref p) _ Z2 F2 G3 ((x1.trans x2).trans x3) ok3 (er2.grown g) (.t rt) fun z => nomatch z
        · cases hh
theorem dispL_ok (q : tQ K W false (sTake hLst fr) σ H Q) : tLst (tAQ K W false fr) σ H Q := by
  obtain ⟨Z, env, F, ok, er, r, hr, post⟩ := q
  unfold sTake at hr
  split at hr
  · cases hr
  · rename_i x e hf
    cases hr
    exact ⟨Z, env, F, ok, er, _, hf, post⟩
  · rename_i os e hf
    split at hr
    · cases hr
    · rename_i ts e' ht
      unfold hLst at hr
      split at hr
      · cases hr
      · rename_i t hh
        cases hr
        split at hh
        · rename_i hl
          cases hh
          refine ⟨Z, env, F, ok, er, _, hf, fun vs H1 Z1 F1 G1 x1 ok1 er1 or1 _ => ?_⟩
          obtain ⟨Z2, F2, G2, x2, ok2, er2, r2⟩ := takes_ok ok1 er1 or1 ht
          refine ⟨by rw [← r2.length]; exact hl, fun p hp => ?_⟩
          have g := grow_upd (o := .lst vs) hp
          have ok3 : Ok Z2 (upd H1 p (.lst vs)) ((F2 ++ G2) ++ [p]) := ok2.grown g (fresh1 hp) (by simp) fun a ha => by rw [List.mem_singleton.mp ha, upd_same]; trivial
          have x3 : Ext Z2 H1 (F2 ++ G2) Z2 (upd H1 p (.lst vs)) ((F2 ++ G2) ++ [p]) := Ext.grown g (fresh1 hp)
          have pm : ((F2 ++ G2) ++ [p]).Perm (F2 ++ (p :: G2)) := by
            rw [List.append_assoc]
            exact List.Perm.append_left F2 List.perm_append_comm
          exact post (.ref p) _ Z2 F2 (p :: G2) (((x1.trans x2).trans x3).sub fun a ha => pm.mem_iff.mpr ha) (ok3.perm pm) (er2.grown g) (.t (.lst upd_same (r2.grown g))) fun z => nomatch z
        · cases hh
end
section
variable {X : Cx} {W : WX} {es : List Expr} {pos : Pos} {p : Bool} {fr : EM (List Opd)}
theorem pq_tup {k} (h : PAQ X W p es fr) : PQ X W false (.Tuple es k pos) (sTake hTup fr) := (pe_tup (h.imp fun _ _ _ z => tAQ_any z : PAQ X W false es fr)).imp fun _ _ _ q => dispT_ok q
theorem pq_lst (h : PAQ X W p es fr) : PQ X W false (.List es pos) (sTake hLst fr) := (pe_lst (h.imp fun _ _ _ z => tAQ_any z : PAQ X W false es fr)).imp fun _ _ _ q => dispL_ok q
end
/-! pure displays: all items immutable -/
@[simp] def immD (env : En) : Opd → Option D
  | .t (.z d) => some d
  | .k d => if d.imm = true then some d else none
  | _ => none
@[simp] def immDs (env : En) : List Opd → Option (List D)
  | [] => some []
  | o :: os => match immD env o, immDs env os with
    | some d, some ds => some (d :: ds)
    | _, _ => none
@[simp] def oTup (env : En) (os : List Opd) : Option Opd := match immDs env os with
  | some ds => if ds.length ≤ sizeLine then some (.t (.z (.tup ds))) else none
  | none => none
@[simp] def oLst (env : En) (os : List Opd) : Option Opd := match immDs env os with
  | some ds => if ds.length ≤ sizeLine then some (.t (.lst (ds.map .z))) else none
  | none => none
section
variable {K : PySem.W.Frag} {Z H : Hp} {σ : L2.St} {env : En}
theorem immDs_ok : ∀ {os : List Opd} {ds : List D} {vs : List V} {G : List Addr}, OpdRs K Z H σ os vs G → immDs env os = some ds → Reps K Z H ds vs
  | [], _, _, _, r, e => by
    simp only [immDs, Option.some.injEq] at e; subst e
    cases r; exact .nil
  | o :: os, _, _, _, r, e => by
    simp only [immDs] at e
    split at e
    · rename_i d ds' e1 e2
      simp only [Option.some.injEq] at e; subst e
      cases r with
      | cons a b =>
        refine .cons ?_ (immDs_ok b e2)
        unfold immD at e1
        split at e1
        · cases e1
          cases a with | t a => cases a with | z a => exact a
        · split at e1
          · rename_i hi
            cases e1
            cases a with | k a => exact a.imm (fun _ _ z => z) hi
          · cases e1
        · cases e1
    · cases e
end
section
variable {X : Cx} {W : WX} {es : List Expr} {pos : Pos} {p : Bool} {fr : EM (List Opd)}
theorem pq_tupI {k} (h : PAQ X W p es fr) : PQ X W p (.Tuple es k pos) (sO oTup fr) := by
  refine (pe_tup h).imp fun σ H Q q => o_ok (R := fun xs H Q => xs.length ≤ sizeLine ∧ ∀ p, H p = none → Q (.ref p) (upd H p (.tup xs))) ?_ q
  intro σ Z H F G env os xs o' Q ok er or ho hq
  unfold oTup at ho
  split at ho
  · rename_i ds hd
    split at ho
    · rename_i hl
      cases ho
      have r := immDs_ok or hd
      exact ⟨by rw [← r.length]; exact hl, fun p hn => hq _ _ [] (grow_upd hn) (fun _ z => nomatch z) (by simp) (new_tup hn r)⟩
    · cases ho
  · cases ho
theorem pq_lstI (h : PAQ X W p es fr) : PQ X W p (.List es pos) (sO oLst fr) := by
  refine (pe_lst h).imp fun σ H Q q => o_ok (R := fun xs H Q => xs.length ≤ sizeLine ∧ ∀ p, H p = none → Q (.ref p) (upd H p (.lst xs))) ?_ q
  intro σ Z H F G env os xs o' Q ok er or ho hq
  unfold oLst at ho
  split at ho
  · rename_i ds hd
    split at ho
    · rename_i hl
      cases ho
      have r := immDs_ok or hd
      exact ⟨by rw [← r.length]; exact hl, fun p hn => hq _ _ [p] (grow_upd hn) (fresh1 hn) (by simp) (new_lst hn r)⟩
    · cases ho
  · cases ho
end

/-! ### what a def computes -/
inductive FOut where
  | rt (t : T) (fin : List T)
  | ex (x : Exc) (fin : List T)
abbrev FSem := List T → Option FOut
/-- the places that a mask names -/
@[simp] def pick {α : Type} : List Bool → List α → List α
  | true :: m, x :: xs => x :: pick m xs
  | false :: m, _ :: xs => pick m xs
  | _, _ => []
/-- the slots that a mask names -/
@[simp] def fins : List Bool → En → Option (List T)
  | true :: m, some t :: e => match fins m e with
    | some ts => some (t :: ts)
    | none => none
  | true :: _, _ => none
  | false :: m, _ :: e => fins m e
  | false :: _, [] => none
  | [], _ => some []
def PostF (K : PySem.W.Frag) (io : List Bool) (vs : List V) (Q : VK) (E : XK) (Z H : Hp) (F : List Addr) : FOut → Prop
  | .rt t fin => ∀ v H' Z' F' G, Ext Z H F Z' H' (F' ++ G) → Ok Z' H' (F' ++ G) → RepTs K Z' H' fin (pick io vs) F' → RepT K Z' H' t v G → Q v H'
  | .ex x fin => ∀ d H' Z' F', Ext Z H F Z' H' F' → Ok Z' H' F' → RepTs K Z' H' fin (pick io vs) F' → ExR K Z' H' x d → E (.ref x.C) d H'
def spF (K : PySem.W.Frag) (n : Nat) (io : List Bool) (f : FSem) : Sp := fun vs H Q E =>
  vs.length = n ∧ ∃ Z ts F, Ok Z H F ∧ RepTs K Z H ts vs F ∧ ∃ out, f ts = some out ∧ PostF K io vs Q E Z H F out
/-- a body as a def: n parameters, m slots in all -/
def fnOf (n m : Nat) (io : List Bool) (g : SM) : FSem := fun ts =>
  if ts.length = n then match g (ts.map some ++ List.replicate (m - n) none) with
    | some (.nx e) => match fins io e with
      | some fin => some (.rt (.z .non) fin)
      | none => none
    | some (.rt t e) => match fins io e with
      | some fin => some (.rt t fin)
      | none => none
    | some (.ex x e) => match fins io e with
      | some fin => some (.ex x fin)
      | none => none
    | _ => none
  else none
def maskIx (k : Nat) : List Bool → List Nat
  | true :: m => k :: maskIx (k + 1) m
  | false :: m => maskIx (k + 1) m
  | [] => []
section
variable {K : PySem.W.Frag} {Z H : Hp}
theorem envR_start {ts : List T} {vs : List V} {F : List Addr} (r : RepTs K Z H ts vs F) (k : Nat) : EnvR K Z H (ts.map some ++ List.replicate k none) (vs.map some ++ List.replicate k none) F := by
  induction ts generalizing vs F with
  | nil =>
    cases r
    simp only [List.map_nil, List.nil_append]
    induction k with
    | zero => exact .nil
    | succ k ih => exact EnvR.cons (F := []) (G := []) .no ih
  | cons t ts ih =>
    cases r with
    | cons a b => exact EnvR.cons (.so a) (ih b)
theorem fins_ok : ∀ {io : List Bool} {env : En} {σ : L2.St} {F : List Addr} {fin : List T}, EnvR K Z H env σ F → fins io env = some fin →
    ∃ ws F', σ.take io.length = σ.take io.length ∧ RepTs K Z H fin ws F' ∧ F'.Sublist F ∧ pick io σ = ws.map some
  | [], env, σ, F, fin, er, e => by
    simp only [fins, Option.some.injEq] at e; subst e
    exact ⟨[], [], rfl, .nil, List.nil_sublist _, rfl⟩
  | true :: m, env, σ, F, fin, er, e => by
    cases er with
    | nil => simp [fins] at e
    | @cons e0 o0 F0 env0 σ0 G0 s r =>
      cases s with
      | no => simp [fins] at e
      | @so t v _ rt =>
        simp only [fins] at e
        split at e
        · rename_i ts e'
          cases e
          obtain ⟨ws, F', _, h1, h2, h3⟩ := fins_ok r e'
          exact ⟨v :: ws, F0 ++ F', rfl, .cons rt h1, h2.append_left F0, by simp [pick, h3]⟩
        · cases e
  | false :: m, env, σ, F, fin, er, e => by
    cases er with
    | nil => simp [fins] at e
    | @cons e0 o0 F0 env0 σ0 G0 s r =>
      simp only [fins] at e
      obtain ⟨ws, F', _, h1, h2, h3⟩ := fins_ok r e
      exact ⟨ws, F', rfl, h1, h2.trans (List.sublist_append_right _ _), by simp [pick, h3]⟩
theorem fins_len : ∀ {io : List Bool} {env : En} {fin : List T}, fins io env = some fin → io.length ≤ env.length
  | [], _, _, _ => by simp
  | true :: m, [], _, e => by simp [fins] at e
  | true :: m, none :: _, _, e => by simp [fins] at e
  | true :: m, some t :: env, _, e => by
    simp only [fins] at e
    split at e
    · rename_i ts e'
      have := fins_len e'
      simpa using this
    · cases e
  | false :: m, [], _, e => by simp [fins] at e
  | false :: m, _ :: env, _, e => by
    simp only [fins] at e
    have := fins_len e
    simpa using this
theorem pick_pin : ∀ {io : List Bool} {k : Nat} {σ σ' : L2.St} {A A' : L2.St}, A.length = k → A'.length = k → (∀ i ∈ maskIx k io, (A' ++ σ')[i]? = (A ++ σ)[i]?) → io.length ≤ σ.length → io.length ≤ σ'.length → pick io σ' = pick io σ
  | [], _, _, _, _, _, _, _, _, _, _ => by simp [pick]
  | true :: m, k, x :: σ, y :: σ', A, A', h1, h2, hp, hl, hl' => by
    have e := hp k (by simp [maskIx])
    rw [List.getElem?_append_right (by omega), List.getElem?_append_right (by omega)] at e
    simp only [h1, h2, Nat.sub_self, List.getElem?_cons_zero, Option.some.injEq] at e
    subst e
    have ih := pick_pin (io := m) (k := k + 1) (σ := σ) (σ' := σ') (A := A ++ [y]) (A' := A' ++ [y]) (by simp [h1]) (by simp [h2]) (fun i hi => by
      have := hp i (by simp [maskIx, hi])
      simpa using this) (by simpa using hl) (by simpa using hl')
    simp [pick, ih]
  | false :: m, k, x :: σ, y :: σ', A, A', h1, h2, hp, hl, hl' => by
    have ih := pick_pin (io := m) (k := k + 1) (σ := σ) (σ' := σ') (A := A ++ [x]) (A' := A' ++ [y]) (by simp [h1]) (by simp [h2]) (fun i hi => by
      have := hp i (by simp [maskIx, hi])
      simpa using this) (by simpa using hl) (by simpa using hl')
    simp [pick, ih]
  | _ :: _, _, [], _, _, _, _, _, _, hl, _ => by simp at hl
  | _ :: _, _, _ :: _, [], _, _, _, _, _, _, hl => by simp at hl
theorem pick_some {io : List Bool} {vs : List V} {k : Nat} (h : io.length ≤ vs.length) : pick io (vs.map some ++ List.replicate k none) = (pick io vs).map some := by
  induction io generalizing vs with
  | nil => simp [pick]
  | cons b m ih =>
    cases vs with
    | nil => simp at h
    | cons v vs =>
      have := ih (vs := vs) (by simpa using h)
      cases b <;> simp [pick, this]
end
/-- THE RULE for a def -/
theorem def_ok {P : Program} {w : World} {K : PySem.W.Frag} {mg : Str → Option Value} {base : Heap} {x qual : Str} {st : Stmt} {f : Addr} {fd : FuncData} {N ps : List Str} {k : Nat} {io : List Bool} {g : SM} (Fn : Fun K x qual st f fd) (S : FnScope N ps (defScope st)) (hio : io.length ≤ ps.length) (hN : ps.length ≤ N.length)
    (body : ∀ (cdv : Value) (A : Around) (outer : List PySem.Env) (s : Shared) (H : Hp) (E : XK), Room k (A.deeper (envOfC qual (defScope st) s.heap.objs.size f cdv)) →
      PBQ (cxOf (L2.CX P w) P w K mg base N qual (defScope st) f cdv A outer s H E) (fun cls d _ H => E cls d H) (maskIx 0 io) (defBody st) g) :
    FnOk P w K mg base (L2.CX P w) (k + 1) f fd ps (spF K ps.length io (fnOf ps.length N.length io g)) := by
  refine Fn.okX S (fun vs H Q E h => h.1) (fun cdv A outer s H vs Q E hr h => ?_)
  refine ⟨_, body cdv A outer s H E hr, ?_⟩
  obtain ⟨hl, Z, ts, F, ok, r, out, ho, post⟩ := h
  unfold fnOf at ho
  have hts : ts.length = ps.length := r.length.trans hl
  rw [if_pos hts] at ho
  have er := envR_start r (N.length - ps.length)
  have eσ : L2.start N vs = vs.map some ++ List.replicate (N.length - ps.length) none := by unfold L2.start; rw [hl]
  rw [eσ]
  have fin_ok : ∀ {e : En} {fin : List T} {σ' : L2.St} {Z' H' : Hp} {F' : List Addr}, EnvR K Z' H' e σ' F' → fins io e = some fin → Pin (maskIx 0 io) (vs.map some ++ List.replicate (N.length - ps.length) none) σ' →
      ∃ F2, RepTs K Z' H' fin (pick io vs) F2 ∧ F2.Sublist F' := fun {e fin σ' Z' H' F'} er' hf pn => by
    obtain ⟨ws, F2, _, h1, h2, h3⟩ := fins_ok er' hf
    have h4 := pick_pin (io := io) (k := 0) (σ := vs.map some ++ List.replicate (N.length - ps.length) none) (σ' := σ') (A := []) (A' := []) rfl rfl (fun i hi => by simpa using pn.2 i hi) (by simp [hl]; omega) (by rw [← er'.length]; exact fins_len hf)
    rw [h3, pick_some (by rw [hl]; exact hio)] at h4
    have h5 : ws = pick io vs := by
      have := congrArg (List.filterMap id) h4
      simpa using this
    subst h5
    exact ⟨F2, h1, h2⟩
  refine ⟨Z, _, F, ok, er, ?_⟩
  split at ho
  · rename_i e hg
    split at ho
    · rename_i fin hf
      cases ho
      refine ⟨_, hg, fun σ' H' Z' F' x1 ok1 er1 pn => ?_⟩
      obtain ⟨F2, r2, sl⟩ := fin_ok er1 hf pn
      exact post .non H' Z' F2 [] (by simpa using x1.sub fun a ha => sl.subset ha) (by simpa using ok1.subF sl) r2 (.z .non)
    · cases ho
  · rename_i t e hg
    split at ho
    · rename_i fin hf
      cases ho
      refine ⟨_, hg, fun v σ' H' Z' F' G x1 ok1 er1 rt pn => ?_⟩
      obtain ⟨F2, r2, sl⟩ := fin_ok er1 hf pn
      have sl' : (F2 ++ G).Sublist (F' ++ G) := sl.append_right G
      exact post v H' Z' F2 G (x1.sub fun a ha => sl'.subset ha) (ok1.subF sl') r2 rt
    · cases ho
  · rename_i y e hg
    split at ho
    · rename_i fin hf
      cases ho
      refine ⟨_, hg, fun d σ' H' Z' F' x1 ok1 er1 xr pn => ?_⟩
      obtain ⟨F2, r2, sl⟩ := fin_ok er1 hf pn
      exact post d H' Z' F2 (x1.sub fun a ha => sl.subset ha) (ok1.subF sl) r2 xr
    · cases ho
  · cases ho
end DL

/-! DL9: calls of defs. -/
namespace DL
open PySem PySem.Spec PyProof.Rows L2

section
variable {K : PySem.W.Frag} {Z Z' H : Hp}
mutual
theorem RepT.clean : ∀ {t : T} {v : V} {F : List Addr}, RepT K Z H t v F → t.clean = true → RepT K Z' H t v F
  | _, _, _, .z r, e => .z (r.imm (fun _ _ z => z) (by simpa [T.clean] using e))
  | _, _, _, .tup h r, e => .tup h (RepTs.clean r (by simpa [T.clean] using e))
  | _, _, _, .lst h r, e => .lst h (RepTs.clean r (by simpa [T.clean] using e))
  | _, _, _, .dic h n r, e => .dic h n (RepTs.clean r (by simpa [T.clean] using e))
  | _, _, _, .obj h n r, e => .obj h n (RepTs.clean r (by simpa [T.clean] using e))
theorem RepTs.clean : ∀ {t : List T} {v : List V} {F : List Addr}, RepTs K Z H t v F → T.cleans t = true → RepTs K Z' H t v F
  | _, _, _, .nil, _ => .nil
  | _, _, _, .cons r s, e => by
    simp only [T.cleans, Bool.and_eq_true] at e
    exact .cons (r.clean e.1) (s.clean e.2)
end
end
theorem SlotR.frame {K : PySem.W.Frag} {Z H Z' H' : Hp} {F F' G : List Addr} {e : Option T} {o : Option V} (r : SlotR K Z H e o G) (x : Ext Z H F Z' H' F') (ok : Ok Z H (F ++ G)) : SlotR K Z' H' e o G := by
  cases r with
  | no => exact .no
  | so r => exact .so (r.frame x ok)
theorem EnvR.frame {K : PySem.W.Frag} {Z H Z' H' : Hp} {F F' G : List Addr} {env : En} {σ : L2.St} (r : EnvR K Z H env σ G) (x : Ext Z H F Z' H' F') (ok : Ok Z H (F ++ G)) : EnvR K Z' H' env σ G :=
  r.keep x.zz (x.tt ok.left) fun a ha o e => x.hh a o e fun m => (List.nodup_append.mp ok.nod).2.2 a m a ha rfl

/-! ### a call that only looks at its arguments -/
def sCallL (n : Nat) (Fn : FSem) (fr : EM (List Opd)) : EM Opd := fun env => match fr env with
  | none => none
  | some (.ex x e) => some (.ex x e)
  | some (.ok os e) => match rds e os with
    | none => none
    | some ds => if ds.length = n then match Fn (ds.map .z) with
      | some (.rt t []) => if t.clean = true then some (.ok (.t t) e) else none
      | some (.ex x []) => if D.imms x.vs = true then some (.ex x e) else none
      | _ => none
      else none
theorem ExR.imm {K : PySem.W.Frag} {Z Z' H : Hp} {x : Exc} {d : Option Addr} (h : ExR K Z H x d) (i : D.imms x.vs = true) : ExR K Z' H x d := by
  rcases h with h | ⟨hnn, a, fs, h1, h2, h3, h4⟩
  · exact .inl h
  · exact .inr ⟨hnn, a, fs, h1, h2, h3, h4.imm (fun _ _ z => z) i⟩
section
variable {K : PySem.W.Frag} {W : WX} {σ : L2.St} {H : Hp} {n : Nat} {Fn : FSem} {fr : EM (List Opd)} {Q : VK}
theorem callL_ok {p : Bool} (h : tQ K W p (sCallL n Fn fr) σ H Q) : tAQ K W p fr σ H fun vs H1 => spF K n [] Fn vs H1 Q fun cls d H' => W cls d σ H' := by
  obtain ⟨Z, env, F, ok, er, r, hr, post⟩ := h
  unfold sCallL at hr
  split at hr
  · cases hr
  · rename_i x e hf
    cases hr
    exact ⟨Z, env, F, ok, er, _, hf, post⟩
  · rename_i os e hf
    split at hr
    · cases hr
    · rename_i ds hd
      split at hr
      · rename_i hn
        refine ⟨Z, env, F, ok, er, _, hf, fun vs H1 Z1 F1 G1 x1 ok1 er1 or1 pp => ?_⟩
        have rd := or1.look ok1.sub er1 hd
        have ok0 : Ok H1 H1 [] := ⟨fun _ _ h => h, List.nodup_nil, (fun _ h => nomatch h), (fun _ h => nomatch h)⟩
        have grow : ∀ {Z' H' : Hp} {F' : List Addr}, Ext H1 H1 [] Z' H' F' → Grow H1 H' := fun x a u h => x.hh a u h (fun z => nomatch z)
        refine ⟨by rw [← rd.length]; exact hn, H1, ds.map .z, [], ok0, reps_z rd, ?_⟩
        split at hr
        · rename_i t hfn
          split at hr
          · rename_i hc
            cases hr
            refine ⟨_, hfn, fun v H' Z' F' G x2 ok2 rf rt => ?_⟩
            have hF : F' = [] := by
              have : pick ([] : List Bool) vs = [] := by simp [pick]
              rw [this] at rf
              cases rf; rfl
            subst hF
            simp only [List.nil_append] at x2 ok2
            have g := grow x2
            have fr' : ∀ a ∈ G, H1 a = none := fun a ha => (x2.ff a ha).elim (fun z => nomatch z) id
            have ok3 := ok1.left.grown g fr' ok2.nod ok2.mu
            refine post v H' Z1 F1 G ((x1.sub fun a ha => List.mem_append_left _ ha).trans (Ext.grown g fr')) ok3 (er1.grown g) (.t (rt.clean hc)) fun hp => ?_
            obtain ⟨a, b, c⟩ := pp hp
            exact ⟨a, b, c.1, fun q u z => g q u (c.2 q u z)⟩
          · cases hr
        · rename_i x hfn
          split at hr
          · rename_i hc
            cases hr
            refine ⟨_, hfn, fun d H' Z' F' x2 ok2 rf xr => ?_⟩
            have g := grow x2
            have ok3 := ok1.left.grown (G' := []) g (fun _ z => nomatch z) List.nodup_nil fun _ z => nomatch z
            simp only [List.append_nil] at ok3
            have x3 : Ext Z1 H1 F1 Z1 H' F1 := by simpa using (Ext.grown (Z := Z1) (F := F1) (G' := []) g fun _ z => nomatch z)
            exact post d H' Z1 F1 ((x1.sub fun a ha => List.mem_append_left _ ha).trans x3) ok3 (er1.grown g) (xr.imm hc)
          · cases hr
        · cases hr
      · cases hr
end

/-! ### a call that takes its arguments -/
@[simp] def takeIO : List Bool → List Opd → En → Option (List T × En)
  | _, [], env => some ([], env)
  | io, o :: os, env => match (if io.headD false = true then o.mv env else o.take env) with
    | none => none
    | some (t, e1) => match takeIO io.tail os e1 with
      | none => none
      | some (ts, e2) => some (t :: ts, e2)
@[simp] def putIO : List Bool → List Opd → List T → En → Option En
  | [], _, [], env => some env
  | true :: io, .s i :: os, t :: ts, env => if i < env.length then putIO io os ts (env.set i (some t)) else none
  | true :: io, .t _ :: os, _ :: ts, env => putIO io os ts env
  | false :: io, _ :: os, ts, env => putIO io os ts env
  | _, _, _, _ => none
def sCallT (n : Nat) (io : List Bool) (Fn : FSem) (fr : EM (List Opd)) : EM Opd := fun env => match fr env with
  | none => none
  | some (.ex x e) => some (.ex x e)
  | some (.ok os e) => match takeIO io os e with
    | none => none
    | some (ts, e1) => if ts.length = n then match Fn ts with
      | some (.rt t fin) => match putIO io os fin e1 with
        | some e2 => some (.ok (.t t) e2)
        | none => none
      | some (.ex x fin) => match putIO io os fin e1 with
        | some e2 => some (.ex x e2)
        | none => none
      | none => none
      else none
section
variable {K : PySem.W.Frag} {W : WX} {σ : L2.St}
theorem takeIO_ok {H : Hp} : ∀ {io : List Bool} {os : List Opd} {env env' : En} {ts : List T} {vs : List V} {Z : Hp} {F G : List Addr}, Ok Z H (F ++ G) → EnvR K Z H env σ F → OpdRs K Z H σ os vs G → takeIO io os env = some (ts, env') →
    ∃ Z' F' G', Ext Z H (F ++ G) Z' H (F' ++ G') ∧ Ok Z' H (F' ++ G') ∧ EnvR K Z' H env' σ F' ∧ RepTs K Z' H ts vs G'
  | _, [], env, env', ts, vs, Z, F, G, ok, er, r, e => by
    simp only [takeIO, Option.some.injEq, Prod.mk.injEq] at e
    obtain ⟨rfl, rfl⟩ := e
    cases r
    exact ⟨Z, F, [], Ext.refl, ok, er, .nil⟩
  | io, o :: os, env, env', ts, vs, Z, F, G, ok, er, r, e => by
    cases r with
    | @cons _ v G1 _ vs G2 a b =>
      simp only [takeIO] at e
      split at e
      · cases e
      · rename_i t e1 h1
        split at e
        · cases e
        · rename_i ts' e2 h2
          simp only [Option.some.injEq, Prod.mk.injEq] at e
          obtain ⟨rfl, rfl⟩ := e
          have ok' : Ok Z H ((F ++ G1) ++ G2) := by rw [List.append_assoc]; exact ok
          have one : ∃ Z1 F1 G1', Ext Z H (F ++ G1) Z1 H (F1 ++ G1') ∧ Ok Z1 H (F1 ++ G1') ∧ EnvR K Z1 H e1 σ F1 ∧ RepT K Z1 H t v G1' := by
            split at h1
            · obtain ⟨F1, G1', q⟩ := mv_ok ok'.left er a h1
              exact ⟨Z, F1, G1', q⟩
            · exact take_ok ok'.left er a h1
          obtain ⟨Z1, F1, G1', x1, ok1, er1, r1⟩ := one
          have okb : Ok Z1 H ((F1 ++ G1') ++ G2) := Ok.beside x1 ok1 ok'
          have pm1 : ((F1 ++ G1') ++ G2).Perm ((F1 ++ G2) ++ G1') := by
            simp only [List.append_assoc]
            exact List.Perm.append_left F1 List.perm_append_comm
          have okc : Ok Z1 H ((F1 ++ G2) ++ G1') := okb.perm pm1
          have b' : OpdRs K Z1 H σ os vs G2 := b.later x1 ok' (fun _ _ z => z)
          obtain ⟨Z2, F2, G2', x2, ok2, er2, r2⟩ := takeIO_ok okc.left er1 b' h2
          have okd : Ok Z2 H ((F2 ++ G2') ++ G1') := Ok.beside x2 ok2 okc
          have pm2 : ((F2 ++ G2') ++ G1').Perm (F2 ++ (G1' ++ G2')) := by
            rw [List.append_assoc]
            exact List.Perm.append_left F2 List.perm_append_comm
          refine ⟨Z2, F2, G1' ++ G2', ?_, okd.perm pm2, er2, .cons (r1.frame x2 okc) r2⟩
          have xa : Ext Z H ((F ++ G1) ++ G2) Z1 H ((F1 ++ G1') ++ G2) := x1.wide
          have xb : Ext Z1 H ((F1 ++ G2) ++ G1') Z2 H ((F2 ++ G2') ++ G1') := x2.wide
          have xc := (xa.sub fun a ha => pm1.mem_iff.mpr ha).trans xb
          have xd := xc.sub (F2 := F2 ++ (G1' ++ G2')) fun a ha => pm2.mem_iff.mpr ha
          rw [List.append_assoc] at xd
          exact xd
theorem set_same {σ : L2.St} {i : Nat} {v : V} (h : σ[i]? = some (some v)) : σ.set i (some v) = σ := by
  apply List.ext_getElem?
  intro j
  by_cases hj : i = j
  · subst hj
    obtain ⟨hl, _⟩ := List.getElem?_eq_some_iff.mp h
    rw [List.getElem?_set_self hl, h]
  · rw [List.getElem?_set_ne hj]
theorem putIO_ok {Z0 H0 Z H : Hp} : ∀ {io : List Bool} {os : List Opd} {vs : List V} {G0 : List Addr} {fin : List T} {env env' : En} {F Ff : List Addr}, OpdRs K Z0 H0 σ os vs G0 → Ok Z H (F ++ Ff) → EnvR K Z H env σ F → RepTs K Z H fin (pick io vs) Ff → putIO io os fin env = some env' →
    ∃ F', Ext Z H (F ++ Ff) Z H F' ∧ Ok Z H F' ∧ EnvR K Z H env' σ F'
  | [], os, vs, G0, [], env, env', F, Ff, _, ok, er, r, e => by
    simp only [putIO, Option.some.injEq] at e; subst e
    exact ⟨F, Ext.subF fun a ha => List.mem_append_left _ ha, ok.left, er⟩
  | true :: io, .s i :: os, vs, G0, t :: fin, env, env', F, Ff, or, ok, er, r, e => by
    cases or with
    | @cons _ v G1 _ vs G2 a b =>
      cases a with
      | s ha =>
        simp only [pick] at r
        cases r with
        | @cons _ _ _ _ F1 F2 r1 r2 =>
          simp only [putIO] at e
          split at e
          · rename_i hi
            have ok' : Ok Z H ((F ++ F1) ++ F2) := by rw [List.append_assoc]; exact ok
            obtain ⟨F3, x3, ok3, er3⟩ := er.put ok'.left r1 hi
            rw [set_same ha] at er3
            have okb := Ok.beside x3 ok3 ok'
            obtain ⟨F4, x4, ok4, er4⟩ := putIO_ok b okb er3 r2 e
            refine ⟨F4, ?_, ok4, er4⟩
            have z := (x3.wide (G := F2)).trans x4
            rw [List.append_assoc] at z
            exact z
          · cases e
  | true :: io, .t u :: os, vs, G0, t :: fin, env, env', F, Ff, or, ok, er, r, e => by
    cases or with
    | @cons _ v G1 _ vs G2 a b =>
      simp only [pick] at r
      cases r with
      | @cons _ _ _ _ F1 F2 r1 r2 =>
        simp only [putIO] at e
        have sl : (F ++ F2).Sublist (F ++ (F1 ++ F2)) := List.Sublist.append_left (List.sublist_append_right _ _) F
        obtain ⟨F4, x4, ok4, er4⟩ := putIO_ok b (ok.subF sl) er r2 e
        exact ⟨F4, (Ext.subF fun a ha => sl.subset ha).trans x4, ok4, er4⟩
  | false :: io, o :: os, vs, G0, fin, env, env', F, Ff, or, ok, er, r, e => by
    cases or with
    | @cons _ v G1 _ vs G2 a b =>
      simp only [pick] at r
      simp only [putIO] at e
      exact putIO_ok b ok er r e
  | [], _, _, _, _ :: _, _, _, _, _, _, _, _, _, e => by simp [putIO] at e
  | true :: _, [], _, _, _, _, _, _, _, _, _, _, _, e => by simp [putIO] at e
  | false :: _, [], _, _, _, _, _, _, _, _, _, _, _, e => by simp [putIO] at e
  | true :: _, .k _ :: _, _, _, _, _, _, _, _, _, _, _, _, e => by simp [putIO] at e
  | true :: _, .s _ :: _, _, _, [], _, _, _, _, _, _, _, _, e => by simp [putIO] at e
  | true :: _, .t _ :: _, _, _, [], _, _, _, _, _, _, _, _, e => by simp [putIO] at e
theorem callT_ok {H : Hp} {n : Nat} {io : List Bool} {Fn : FSem} {fr : EM (List Opd)} {Q : VK} (h : tQ K W false (sCallT n io Fn fr) σ H Q) : tAQ K W false fr σ H fun vs H1 => spF K n io Fn vs H1 Q fun cls d H' => W cls d σ H' := by
  obtain ⟨Z, env, F, ok, er, r, hr, post⟩ := h
  unfold sCallT at hr
  split at hr
  · cases hr
  · rename_i x e hf
    cases hr
    exact ⟨Z, env, F, ok, er, _, hf, post⟩
  · rename_i os e hf
    split at hr
    · cases hr
    · rename_i ts e1 ht
      split at hr
      · rename_i hn
        refine ⟨Z, env, F, ok, er, _, hf, fun vs H1 Z1 F1 G1 x1 ok1 er1 or1 _ => ?_⟩
        obtain ⟨Z2, F2, G2, x2, ok2, er2, r2⟩ := takeIO_ok ok1 er1 or1 ht
        have pm : (F2 ++ G2).Perm (G2 ++ F2) := List.perm_append_comm
        have okp : Ok Z2 H1 (G2 ++ F2) := ok2.perm pm
        have x12 : Ext Z H F Z2 H1 (G2 ++ F2) := (x1.trans x2).sub fun a ha => pm.mem_iff.mpr ha
        refine ⟨by rw [← r2.length]; exact hn, Z2, ts, G2, ok2.right, r2, ?_⟩
        split at hr
        · rename_i t fin hfn
          split at hr
          · rename_i e2 hp
            cases hr
            refine ⟨_, hfn, fun v H' Z' F' G x3 ok3 rf rt => ?_⟩
            have okb : Ok Z' H' ((F' ++ G) ++ F2) := Ok.beside x3 ok3 okp
            have er3 := er2.frame x3 okp
            have pm2 : ((F' ++ G) ++ F2).Perm ((F2 ++ F') ++ G) := by
              have : (F' ++ G ++ F2).Perm (F2 ++ (F' ++ G)) := List.perm_append_comm
              rw [← List.append_assoc] at this
              exact this
            have okc := okb.perm pm2
            obtain ⟨F4, x4, ok4, er4⟩ := putIO_ok or1 okc.left er3 rf hp
            have okd : Ok Z' H' (F4 ++ G) := Ok.beside x4 ok4 okc
            refine post v H' Z' F4 G ?_ okd er4 (.t rt) fun z => nomatch z
            exact ((x12.trans x3.wide).sub fun a ha => pm2.mem_iff.mpr ha).trans (x4.wide (G := G))
          · cases hr
        · rename_i y fin hfn
          split at hr
          · rename_i e2 hp
            cases hr
            refine ⟨_, hfn, fun d H' Z' F' x3 ok3 rf xr => ?_⟩
            have okb : Ok Z' H' (F' ++ F2) := Ok.beside x3 ok3 okp
            have er3 := er2.frame x3 okp
            have pm2 : (F' ++ F2).Perm (F2 ++ F') := List.perm_append_comm
            have okc := okb.perm pm2
            obtain ⟨F4, x4, ok4, er4⟩ := putIO_ok or1 okc er3 rf hp
            exact post d H' Z' F4 (((x12.trans x3.wide).sub fun a ha => pm2.mem_iff.mpr ha).trans x4) ok4 er4 xr
          · cases hr
        · cases hr
      · cases hr
end
section
variable {X : Cx} {W : WX} {k n : Nat} {f : Addr} {fd : FuncData} {ps : List Str} {io : List Bool} {Fn : FSem} {x : Str} {p pos : Pos} {e : Expr} {es : List Expr} {fr : EM (List Opd)} {pp : Bool}
theorem pq_callL (tk : Takes X W) (F : FnOk X.prog X.w X.K X.mg X.base (L2.CX X.prog X.w) k f fd ps (spF X.K n [] Fn)) (hr : Room k X.A) (hg : Gl X x) (hm : X.mg x = some (.ref f)) (hk : PySem.W.keepIn X.K (.ref f) = true) (hb : Binds X.K fd ps []) (ha : PAQ X W pp (e :: es) fr)
    (hdb : (x == ("__debug__" : Str)) = false := by decide) (he : starEach (e :: es) X.env = (false, eval e X.env) :: starEach es X.env := by rfl) (hpl : (backTo pos (starEach es X.env)).any (·.1) = false := by rfl) :
    PQ X W pp (.Call (.Name x p) (e :: es) [] pos) (sCallL n Fn fr) :=
  (pe_callS F hr hg hm hk hb (fun σ => passAt tk σ) ha hdb he hpl).imp fun _ _ _ h => callL_ok h
theorem pq_callT (tk : Takes X W) (F : FnOk X.prog X.w X.K X.mg X.base (L2.CX X.prog X.w) k f fd ps (spF X.K n io Fn)) (hr : Room k X.A) (hg : Gl X x) (hm : X.mg x = some (.ref f)) (hk : PySem.W.keepIn X.K (.ref f) = true) (hb : Binds X.K fd ps []) (ha : PAQ X W pp (e :: es) fr)
    (hdb : (x == ("__debug__" : Str)) = false := by decide) (he : starEach (e :: es) X.env = (false, eval e X.env) :: starEach es X.env := by rfl) (hpl : (backTo pos (starEach es X.env)).any (·.1) = false := by rfl) :
    PQ X W false (.Call (.Name x p) (e :: es) [] pos) (sCallT n io Fn fr) :=
  (pe_callS F hr hg hm hk hb (fun σ => passAt tk σ) (ha.imp fun _ _ _ z => tAQ_any z : PAQ X W false (e :: es) fr) hdb he hpl).imp fun _ _ _ h => callT_ok h
end
end DL

/-! DL10: lists that are written. -/
namespace DL
open PySem PySem.Spec PyProof.Rows L2

section
variable {K : PySem.W.Frag} {Z H : Hp}
theorem RepTs.snoc {ts : List T} {vs : List V} {F : List Addr} {t : T} {v : V} {G : List Addr} (r : RepTs K Z H ts vs F) (a : RepT K Z H t v G) : RepTs K Z H (ts ++ [t]) (vs ++ [v]) (F ++ G) := by
  induction ts generalizing vs F with
  | nil =>
    cases r
    have z := RepTs.cons a RepTs.nil
    simpa using z
  | cons x xs ih =>
    cases r with
    | cons r s =>
      rw [List.append_assoc]
      exact .cons r (ih s)
theorem RepTs.last {ts : List T} {vs : List V} {F : List Addr} {t : T} (r : RepTs K Z H ts vs F) (e : ts.getLast? = some t) :
    ∃ v F1 G, vs[vs.length - 1]? = some v ∧ RepTs K Z H ts.dropLast vs.dropLast F1 ∧ RepT K Z H t v G ∧ F = F1 ++ G := by
  induction ts generalizing vs F with
  | nil => simp at e
  | cons x xs ih =>
    cases r with
    | @cons _ v _ vs F1 F2 r s =>
      cases xs with
      | nil =>
        simp at e; subst e
        cases s
        exact ⟨v, [], F1, by simp, .nil, r, by simp⟩
      | cons y ys =>
        rw [List.getLast?_cons_cons] at e
        obtain ⟨w, A, G, h1, h2, h3, h4⟩ := ih s e
        have hl := s.length
        cases vs with
        | nil => simp at hl
        | cons v2 vs =>
          refine ⟨w, F1 ++ A, G, ?_, ?_, h3, by simp [h4]⟩
          · simpa using h1
          · simp only [List.dropLast_cons_cons]
            exact .cons r h2
theorem RepTs.setAt {ts : List T} {vs : List V} {F : List Addr} {t : T} {v : V} {G : List Addr} (r : RepTs K Z H ts vs F) (a : RepT K Z H t v G) : ∀ {j : Nat}, j < ts.length →
    ∃ A B C, F = A ++ B ++ C ∧ RepTs K Z H (ts.set j t) (vs.set j v) (A ++ G ++ C) := by
  induction ts generalizing vs F with
  | nil => intro j h; simp at h
  | cons x xs ih =>
    cases r with
    | @cons _ w _ ws F1 F2 r s =>
      intro j h
      cases j with
      | zero => exact ⟨[], F1, F2, by simp, by simpa using RepTs.cons a s⟩
      | succ j =>
        obtain ⟨A, B, C, e, h2⟩ := ih s (j := j) (by simpa using h)
        refine ⟨F1 ++ A, B, C, by simp [e], ?_⟩
        have z := RepTs.cons r h2
        simpa using z
theorem RepTs.rev {ts : List T} {vs : List V} {F : List Addr} (r : RepTs K Z H ts vs F) : ∃ F', F'.Perm F ∧ RepTs K Z H ts.reverse vs.reverse F' := by
  induction ts generalizing vs F with
  | nil => cases r; exact ⟨[], .refl _, .nil⟩
  | cons x xs ih =>
    cases r with
    | @cons _ w _ ws F1 F2 r s =>
      obtain ⟨F', p, h⟩ := ih s
      refine ⟨F' ++ F1, ?_, by simpa using h.snoc r⟩
      exact (List.perm_append_comm).trans (List.Perm.append_left F1 p)
theorem RepTs.app {ts us : List T} {vs ws : List V} {F G : List Addr} (r : RepTs K Z H ts vs F) (s : RepTs K Z H us ws G) : RepTs K Z H (ts ++ us) (vs ++ ws) (F ++ G) := by
  induction ts generalizing vs F with
  | nil => cases r; simpa using s
  | cons x xs ih =>
    cases r with
    | cons a b =>
      rw [List.append_assoc]
      exact .cons a (ih b)
end
/-- the list in a slot is written -/
theorem slot_upd {K : PySem.W.Frag} {Z H : Hp} {σ : L2.St} {env : En} {F G : List Addr} {i : Nat} {ts : List T} {v : V} (ok : Ok Z H (F ++ G)) (er : EnvR K Z H env σ F) (e : env[i]? = some (some (.lst ts))) (hv : σ[i]? = some (some v)) :
    ∃ a vs Fts, v = .ref a ∧ H a = some (.lst vs) ∧ RepTs K Z H ts vs Fts ∧ (∀ b ∈ Fts, b ∈ F) ∧ Fts.Nodup ∧ (∀ b ∈ Fts, b ∉ G) ∧ a ∉ Fts ∧
      ∀ ts' vs' Fts', RepTs K Z H ts' vs' Fts' → (∀ b ∈ Fts', b ∈ Fts ∨ b ∈ G) → Fts'.Nodup →
        ∃ F', Ext Z H (F ++ G) Z (upd H a (.lst vs')) F' ∧ Ok Z (upd H a (.lst vs')) F' ∧ EnvR K Z (upd H a (.lst vs')) (env.set i (some (.lst ts'))) σ F' ∧ a ∈ F ∧ (∀ b ∈ F', b ∈ Fts' ∨ (b ∈ F ∧ b ∉ Fts)) := by
  obtain ⟨A, Fi, B, o, e1, e2, e3, e4⟩ := er.lens e
  rw [hv] at e2
  have e2' := Option.some.inj e2
  subst e2'
  cases e3 with
  | so r =>
    cases r with
    | @lst a vs _ Fts ha r =>
      subst e1
      have nd : (A ++ (a :: Fts) ++ B ++ G).Nodup := by simpa using ok.nod
      simp only [List.append_assoc, List.nodup_append, List.mem_append, List.cons_append, List.nodup_cons, List.mem_cons] at nd
      obtain ⟨ndA, ⟨na, ndT, ndBG, dT⟩, dA⟩ := nd
      obtain ⟨ndB, ndG, dB⟩ := ndBG
      refine ⟨a, vs, Fts, rfl, ha, r, fun b hb => by simp [hb], ndT, fun b hb m => dT b hb b (.inr m) rfl, (fun h => na (.inl h)), fun ts' vs' Fts' r' hs nd' => ?_⟩
      have naF : ∀ b ∈ Fts', b ≠ a := fun b hb e => by
        subst e
        rcases hs b hb with h | h
        · exact na (.inl h)
        · exact na (.inr (.inr h))
      have dAF : ∀ b ∈ A, b ≠ a ∧ b ∉ Fts' ∧ b ∉ B := fun b hb => ⟨fun e => dA b hb a (.inl rfl) e, fun h => by
        rcases hs b h with h | h
        · exact dA b hb b (.inr (.inl h)) rfl
        · exact dA b hb b (.inr (.inr (.inr h))) rfl, fun h => dA b hb b (.inr (.inr (.inl h))) rfl⟩
      have dFB : ∀ b ∈ Fts', b ∉ B := fun b hb h => by
        rcases hs b hb with h' | h'
        · exact dT b h' b (.inl h) rfl
        · exact dB b h b h' rfl
      have aB : a ∉ B := fun h => na (.inr (.inl h))
      have aT : a ∉ Fts := fun h => na (.inl h)
      have tt : ∀ c xs, H c = some (.tup xs) → (upd H a (.lst vs')) c = some (.tup xs) := fun c xs h => by
        have hc : c ≠ a := fun z => by
          subst z
          rw [ha] at h; cases h
        rw [upd_ne hc]; exact h
      have zsub : ∀ c o, Z c = some o → upd H a (.lst vs') c = some o := fun c o h => by
        have hc : c ≠ a := fun z => by
          subst z
          rw [ok.dis c (by simp)] at h; cases h
        rw [upd_ne hc]; exact ok.sub c o h
      have r2 : RepTs K Z (upd H a (.lst vs')) ts' vs' Fts' := r'.keep (fun _ _ h => h) tt fun b hb o h => by rw [upd_ne (naF b hb)]; exact h
      have er' := e4 Z (upd H a (.lst vs')) (fun _ _ h => h) tt (fun b hb o h => by
        have hne : b ≠ a := fun z => by
          subst z
          rcases List.mem_append.mp hb with hb | hb
          · exact (dAF b hb).1 rfl
          · exact aB hb
        rw [upd_ne hne]; exact h) (some (.lst ts')) (some (.ref a)) (a :: Fts') (.so (.lst upd_same r2))
      rw [set_same hv] at er'
      have memF : ∀ b ∈ A ++ (a :: Fts') ++ B, b ∈ (A ++ (a :: Fts) ++ B) ++ G := fun b hb => by
        simp only [List.append_assoc, List.mem_append, List.cons_append, List.mem_cons] at hb ⊢
        rcases hb with h | h | h | h
        · exact .inl h
        · exact .inr (.inl h)
        · rcases hs b h with h | h
          · exact .inr (.inr (.inl h))
          · exact .inr (.inr (.inr (.inr h)))
        · exact .inr (.inr (.inr (.inl h)))
      refine ⟨A ++ (a :: Fts') ++ B, ⟨fun _ _ h => h, fun c o h n => ?_, fun b hb => .inl (memF b hb), fun _ _ h => .inl h⟩, ⟨zsub, ?_, fun b hb => ok.dis b (memF b hb), fun b hb => ?_⟩, er', by simp, fun b hb => ?_⟩
      · have hc : c ≠ a := fun z => n (by simp [z])
        rw [upd_ne hc]; exact h
      · simp only [List.append_assoc, List.nodup_append, List.mem_append, List.cons_append, List.nodup_cons, List.mem_cons]
        refine ⟨ndA, ⟨fun h => ?_, nd', ndB, fun b hb c hc e => ?_⟩, fun b hb c hc e => ?_⟩
        · rcases h with h | h
          · exact naF a h rfl
          · exact aB h
        · subst e; exact dFB b hb hc
        · subst e
          rcases hc with h | h | h
          · exact (dAF b hb).1 h
          · exact (dAF b hb).2.1 h
          · exact (dAF b hb).2.2 h
      · by_cases hba : b = a
        · subst hba; rw [upd_same]; trivial
        · rw [upd_ne hba]; exact ok.mu b (memF b hb)
      · simp only [List.append_assoc, List.mem_append, List.cons_append, List.mem_cons] at hb ⊢
        rcases hb with h | h | h | h
        · exact .inr ⟨.inl h, fun hf => dA b h b (.inr (.inl hf)) rfl⟩
        · exact .inr ⟨.inr (.inl h), fun hf => by rw [h] at hf; exact aT hf⟩
        · exact .inl h
        · exact .inr ⟨.inr (.inr (.inr h)), fun hf => dT b hf b (.inl h) rfl⟩

/-! ### x.append(e), x[k] = e, x.pop(), x.reverse(), x.extend(e) -/
@[simp] def isLst (env : En) (i : Nat) : Bool := match env[i]? with
  | some (some (.lst _)) => true
  | _ => false
def sApp (i : Nat) (f : EM Opd) : SM := fun env => if isLst env i = true then match f env with
  | none => none
  | some (.ex x e) => some (.ex x e)
  | some (.ok o e) => match o.take e with
    | none => none
    | some (t, e') => match e'[i]? with
      | some (some (.lst ts)) => if ts.length < sizeLine then some (.nx (e'.set i (some (.lst (ts ++ [t]))))) else none
      | _ => none
  else none
def sPop (i : Nat) : EM Opd := fun env => match env[i]? with
  | some (some (.lst ts)) => match ts.getLast? with
    | some t => some (.ok (.t t) (env.set i (some (.lst ts.dropLast))))
    | none => none
  | _ => none
def sRev (i : Nat) : SM := fun env => match env[i]? with
  | some (some (.lst ts)) => some (.nx (env.set i (some (.lst ts.reverse))))
  | _ => none
def sSetAt (i : Nat) (fr : EM (List Opd)) : SM := fun env => if isLst env i = true then match fr env with
  | none => none
  | some (.ex x e) => some (.ex x e)
  | some (.ok [o, k] e) => match k.rd e with
    | some (.int j) => match o.take e with
      | none => none
      | some (t, e') => match e'[i]? with
        | some (some (.lst ts)) => match ixN ts.length j with
          | some n => some (.nx (e'.set i (some (.lst (ts.set n t)))))
          | none => none
        | _ => none
    | _ => none
  | _ => none
  else none
def sExt (i : Nat) (f : EM Opd) : SM := fun env => if isLst env i = true then match f env with
  | none => none
  | some (.ex x e) => some (.ex x e)
  | some (.ok o e) => match o.tt e with
    | none => none
    | some u => match u.elsL with
      | none => none
      | some ds => match e[i]? with
        | some (some (.lst ts)) => if ts.length + ds.length ≤ sizeLine then some (.nx (e.set i (some (.lst (ts ++ ds.map .z))))) else none
        | _ => none
  else none
section
variable {K : PySem.W.Frag} {W : WX} {P : List Nat} {D : Ends} {σ : L2.St} {H : Hp} {f : EM Opd} {i : Nat}
theorem isLst_at {Z : Hp} {F : List Addr} {env : En} (sub : ∀ a o, Z a = some o → H a = some o) (er : EnvR K Z H env σ F) (h : isLst env i = true) : ∃ v a vs, σ[i]? = some (some v) ∧ v = .ref a ∧ H a = some (.lst vs) := by
  unfold isLst at h
  split at h
  · rename_i ts q
    obtain ⟨v, Fi, h1, h2, _⟩ := er.at q
    cases h2 with
    | lst h2 _ => exact ⟨_, _, _, h1, rfl, h2⟩
  · cases h
theorem ty_lst {a : Addr} {vs : List V} (h : H a = some (.lst vs)) : tyV K "list" (.ref a) H := Or.inl ⟨rfl, _, SqL.of h⟩
theorem app_ok (q : tS K W P (sApp i f) D σ H) : tDrop (tBM K "list" rAppend (tVar i) (tCons (tQ K W false f) tNil)) D σ H := by
  obtain ⟨Z, env, F, ok, er, o, ho, post⟩ := q
  unfold sApp at ho
  split at ho
  · rename_i hl
    obtain ⟨v, a, vs, hv, rfl, ha⟩ := isLst_at ok.sub er hl
    refine ⟨_, hv, ty_lst ha, ?_⟩
    split at ho
    · cases ho
    · rename_i x e hf
      cases ho
      exact ⟨Z, env, F, ok, er, _, hf, fun d H' Z' F' a b c f => post d σ H' Z' F' a b c f Pin.refl⟩
    · rename_i o e hf
      split at ho
      · cases ho
      · rename_i t e' ht
        split at ho
        · rename_i ts he
          split at ho
          · rename_i hlt
            cases ho
            refine ⟨Z, env, F, ok, er, _, hf, fun y H1 Z1 F1 G1 x1 ok1 er1 or1 _ => ?_⟩
            obtain ⟨Z2, F2, G2, x2, ok2, er2, r2⟩ := take_ok ok1 er1 or1 ht
            obtain ⟨a', vs', Fts, e1, e2, r3, _, ndT, dTG, _, up⟩ := slot_upd ok2 er2 he hv
            cases e1
            obtain ⟨F4, x4, ok4, er4, _⟩ := up (ts ++ [t]) (vs' ++ [y]) (Fts ++ G2) (r3.snoc r2) (fun b hb => List.mem_append.mp hb) (List.nodup_append.mpr ⟨ndT, (List.nodup_append.mp ok2.nod).2.1, fun b hb c hc e => by subst e; exact dTG b hb hc⟩)
            refine ⟨a, vs', y, rfl, rfl, e2, by rw [← r3.length]; exact hlt, ?_⟩
            exact post σ _ Z2 F4 ((x1.trans x2).trans x4) ok4 er4 Pin.refl
          · cases ho
        · cases ho
  · cases ho
theorem ext_ok (q : tS K W P (sExt i f) D σ H) : tDrop (tBM K "list" rExtend (tVar i) (tCons (tQ K W false f) tNil)) D σ H := by
  obtain ⟨Z, env, F, ok, er, o, ho, post⟩ := q
  unfold sExt at ho
  split at ho
  · rename_i hl
    obtain ⟨v, a, vs, hv, rfl, ha⟩ := isLst_at ok.sub er hl
    refine ⟨_, hv, ty_lst ha, ?_⟩
    split at ho
    · cases ho
    · rename_i x e hf
      cases ho
      exact ⟨Z, env, F, ok, er, _, hf, fun d H' Z' F' a b c f => post d σ H' Z' F' a b c f Pin.refl⟩
    · rename_i o e hf
      split at ho
      · cases ho
      · rename_i u hu
        split at ho
        · cases ho
        · rename_i ds hd
          split at ho
          · rename_i ts he
            split at ho
            · rename_i hlt
              cases ho
              refine ⟨Z, env, F, ok, er, _, hf, fun y H1 Z1 F1 G1 x1 ok1 er1 or1 _ => ?_⟩
              obtain ⟨b, ws, rfl, hb, rw'⟩ := (or1.seen er1 hu).elsL ok1.sub hd
              obtain ⟨a', vs', Fts, e1, e2, r3, _, ndT, dTG, _, up⟩ := slot_upd ok1 er1 he hv
              cases e1
              obtain ⟨F4, x4, ok4, er4, _⟩ := up (ts ++ ds.map .z) (vs' ++ ws) Fts (by simpa using r3.app (reps_z rw')) (fun b hb => .inl hb) ndT
              refine ⟨a, b, vs', ws, rfl, rfl, e2, hb, by rw [← r3.length, ← rw'.length]; exact hlt, ?_⟩
              exact post σ _ Z1 F4 (x1.trans x4) ok4 er4 Pin.refl
            · cases ho
          · cases ho
  · cases ho
theorem pop_ok {Q : VK} (q : tQ K W false (sPop i) σ H Q) : tBM0 K "list" rPop (tVar i) σ H Q := by
  obtain ⟨Z, env, F, ok, er, r, hr, post⟩ := q
  unfold sPop at hr
  split at hr
  · rename_i ts he
    split at hr
    · rename_i t ht
      cases hr
      obtain ⟨v, Fi, h1, h2, _⟩ := er.at he
      have ok0 : Ok Z H (F ++ []) := by simpa using ok
      obtain ⟨a, vs, Fts, rfl, e2, r3, hsub, ndT, _, naT, up⟩ := slot_upd ok0 er he h1
      obtain ⟨y, F1, G, hy, r4, r5, eF⟩ := r3.last ht
      subst eF
      obtain ⟨F4, x4, ok4, er4, ha, hb⟩ := up ts.dropLast vs.dropLast F1 r4 (fun b hb => .inl (by simp [hb])) (List.nodup_append.mp ndT).1
      simp only [List.append_nil] at x4
      refine ⟨_, h1, ty_lst e2, a, vs, y, rfl, rfl, e2, hy, ?_⟩
      have naG : ∀ b ∈ G, b ≠ a := fun b hg e => naT (by rw [← e]; simp [hg])
      have ok5 : Ok Z (upd H a (.lst vs.dropLast)) (F4 ++ G) := ⟨ok4.sub, List.nodup_append.mpr ⟨ok4.nod, (List.nodup_append.mp ndT).2.1, fun b hf c hg e => by
          subst e
          rcases hb b hf with z | z
          · exact (List.nodup_append.mp ndT).2.2 b z b hg rfl
          · exact z.2 (by simp [hg])⟩, fun b h => (List.mem_append.mp h).elim (ok4.dis b) fun h => ok.dis b (hsub b (by simp [h])), fun b h => (List.mem_append.mp h).elim (ok4.mu b) fun h => by rw [upd_ne (naG b h)]; exact ok.mu b (hsub b (by simp [h]))⟩
      have tt : ∀ c xs, H c = some (.tup xs) → (upd H a (.lst vs.dropLast)) c = some (.tup xs) := x4.tt ok
      refine post y _ Z F4 G ⟨x4.zz, x4.hh, fun b h => (List.mem_append.mp h).elim (x4.ff b) fun h => .inl (hsub b (by simp [h])), x4.zn⟩ ok5 er4 (.t ?_) fun z => nomatch z
      exact r5.keep (fun _ _ h => h) tt fun b hg o h => by rw [upd_ne (naG b hg)]; exact h
    · cases hr
  · cases hr
theorem rev_ok (q : tS K W P (sRev i) D σ H) : tDrop (tBM0 K "list" rReverse (tVar i)) D σ H := by
  obtain ⟨Z, env, F, ok, er, r, hr, post⟩ := q
  unfold sRev at hr
  split at hr
  · rename_i ts he
    cases hr
    obtain ⟨v, Fi, h1, h2, _⟩ := er.at he
    have ok0 : Ok Z H (F ++ []) := by simpa using ok
    obtain ⟨a, vs, Fts, rfl, e2, r3, hsub, ndT, _, naT, up⟩ := slot_upd ok0 er he h1
    obtain ⟨F', pm, r4⟩ := r3.rev
    obtain ⟨F4, x4, ok4, er4, ha, hb⟩ := up ts.reverse vs.reverse F' r4 (fun b hb => .inl (pm.mem_iff.mp hb)) (pm.nodup_iff.mpr ndT)
    simp only [List.append_nil] at x4
    exact ⟨_, h1, ty_lst e2, a, vs, rfl, rfl, e2, post σ _ Z F4 x4 ok4 er4 Pin.refl⟩
  · cases hr
theorem setAt_ok {p1 p2 : Bool} {fe fk : EM Opd} (q : tS K W P (sSetAt i (sCons p2 fe (sCons true fk sNil))) D σ H) : tAsg (tQ K W p1 fe) (gSub (tVar i) (tQ K W p2 fk) rSetL) D σ H := by
  -- e, then x, then k
  have hlst : ∃ v, σ[i]? = some (some v) := by
    obtain ⟨Z, env, F, ok, er, o, ho, post⟩ := q
    unfold sSetAt at ho
    split at ho
    · rename_i hl
      obtain ⟨v, _, _, hv, _⟩ := isLst_at ok.sub er hl
      exact ⟨v, hv⟩
    · cases ho
  have main : tAQ K W (p1 && p2) (sCons p2 fe (sCons true fk sNil)) σ H (fun xs H2 => ∃ v, σ[i]? = some (some v) ∧ rSetL v (xs.getD 1 .non) (xs.getD 0 .non) H2 fun H3 => D.nx σ H3) := by
    obtain ⟨Z, env, F, ok, er, o, ho, post⟩ := q
    unfold sSetAt at ho
    split at ho
    case isFalse => cases ho
    split at ho
    · cases ho
    · rename_i x e hf
      cases ho
      exact ⟨Z, env, F, ok, er, _, hf, fun d H' Z' F' a b c f => post d σ H' Z' F' a b c f Pin.refl⟩
    · rename_i o k e hf
      split at ho
      · rename_i j hk
        split at ho
        · cases ho
        · rename_i t e' ht
          split at ho
          · rename_i ts he
            split at ho
            · rename_i n hn
              cases ho
              refine ⟨Z, env, F, ok, er, _, hf, fun vs H1 Z1 F1 G1 x1 ok1 er1 or1 _ => ?_⟩
              obtain ⟨x, y, A, B, rfl, ra, rb⟩ := or1.two
              have hy := (rb.look ok1.sub er1 hk).v_int
              subst hy
              -- the value's footprint within G1
              cases or1 with
              | @cons _ _ GA _ _ GB a1 b1 =>
              have okA : Ok Z1 H1 (F1 ++ GA) := ok1.subF (by rw [← List.append_assoc]; exact List.sublist_append_left _ _)
              have xA : Ext Z H F Z1 H1 (F1 ++ GA) := x1.sub fun b hb => by
                simp only [List.mem_append] at hb ⊢
                rcases hb with h | h
                · exact .inl h
                · exact .inr (.inl h)
              obtain ⟨Z2, F2, G2, x2, ok2, er2, r2⟩ := take_ok okA er1 a1 ht
              obtain ⟨v, Fi, hv, _, _⟩ := er2.at he
              obtain ⟨a', ws, Fts, rfl, e2, r3, _, ndT, dTG, _, up⟩ := slot_upd ok2 er2 he hv
              have hnlt : n < ts.length := (ixN_seq hn).2.1
              obtain ⟨A', B', C', eF, r4⟩ := r3.setAt r2 hnlt
              subst eF
              have nd4 : (A' ++ G2 ++ C').Nodup := by
                have ndG := (List.nodup_append.mp ok2.nod).2.1
                simp only [List.append_assoc, List.nodup_append, List.mem_append] at ndT ⊢
                obtain ⟨n1, ⟨n2, n3, n4⟩, n5⟩ := ndT
                refine ⟨n1, ⟨ndG, n3, fun b hb c hc e => ?_⟩, fun b hb c hc e => ?_⟩
                · subst e; exact dTG b (by simp [hc]) hb
                · subst e
                  rcases hc with h | h
                  · exact dTG b (by simp [hb]) h
                  · exact n5 b hb b (.inr h) rfl
              obtain ⟨F4, x4, ok4, er4, _⟩ := up (ts.set n t) (ws.set n x) (A' ++ G2 ++ C') r4 (fun b hb => by
                simp only [List.append_assoc, List.mem_append] at hb ⊢
                rcases hb with h | h | h
                · exact .inl (.inl h)
                · exact .inr h
                · exact .inl (.inr (.inr h))) nd4
              refine ⟨_, hv, a', ws, j, n, rfl, rfl, e2, by rw [← r3.length]; exact hn, ?_⟩
              exact post σ _ Z2 F4 ((xA.trans x2).trans x4) ok4 er4 Pin.refl
            · cases ho
          · cases ho
      · cases ho
    · cases ho
  have z := two_ok main
  -- the name is read between the two
  obtain ⟨v, hv⟩ := hlst
  refine tQ_mono z fun x H1 hx => ⟨v, hv, tQ_mono hx fun y H2 ⟨v', hv', hr⟩ => ?_⟩
  rw [hv] at hv'
  have e := Option.some.inj (Option.some.inj hv')
  subst e
  exact hr
end
section
variable {X : Cx} {W : WX} {P : List Nat} {e e2 : Expr} {pos p1 p2 p3 : Pos} {x : Str} {i : Nat} {p pa pb : Bool} {f fa fb : EM Opd}
theorem psq_append (hx : PE X (.Name x p1) (tVar i)) (he : PQ X W p e f) (hs : swapsWith (.Call (.Attribute (.Name x p1) "append" p2) [e] [] p3) none pos.line X.env = pure false := by rfl)
    (hbase : attributeBase (.Name x p1) "append" X.env (eval (.Name x p1) X.env) = eval (.Name x p1) X.env := by rfl)
    (hfew : ((backTo p3 (starEach [e] X.env)).all (fun x => !x.1) && (backToKw p3 (keywordEach [] X.env)).all (fun x => x.1.isSome) && decide ([e].length + ([] : List Keyword).length + (if ([] : List Keyword).isEmpty then 0 else 1) < 30)) = true := by rfl)
    (hline : (p2.endLine == p3.line) = true := by rfl) (hst : starEach [e] X.env = (false, eval e X.env) :: starEach [] X.env := by rfl) (hplain : (backTo p3 (starEach [] X.env)).any (·.1) = false := by rfl) :
    PSQ X W P (.Expr (.Call (.Attribute (.Name x p1) "append" p2) [e] [] p3) pos) (sApp i f) :=
  (ps_expr (pe_bm PySem.F.plainAttrs_list PySem.F.slot_list_append PySem.F.type_list_append mt_append hx (pa_cons (he.imp fun _ _ _ z => tQ_any z : PQ X W false e f) pa_nil hst) hbase hfew hline hst hplain) hs).imp fun D σ H q => app_ok q
theorem psq_extend (hx : PE X (.Name x p1) (tVar i)) (he : PQ X W p e f) (hs : swapsWith (.Call (.Attribute (.Name x p1) "extend" p2) [e] [] p3) none pos.line X.env = pure false := by rfl)
    (hbase : attributeBase (.Name x p1) "extend" X.env (eval (.Name x p1) X.env) = eval (.Name x p1) X.env := by rfl)
    (hfew : ((backTo p3 (starEach [e] X.env)).all (fun x => !x.1) && (backToKw p3 (keywordEach [] X.env)).all (fun x => x.1.isSome) && decide ([e].length + ([] : List Keyword).length + (if ([] : List Keyword).isEmpty then 0 else 1) < 30)) = true := by rfl)
    (hline : (p2.endLine == p3.line) = true := by rfl) (hst : starEach [e] X.env = (false, eval e X.env) :: starEach [] X.env := by rfl) (hplain : (backTo p3 (starEach [] X.env)).any (·.1) = false := by rfl) :
    PSQ X W P (.Expr (.Call (.Attribute (.Name x p1) "extend" p2) [e] [] p3) pos) (sExt i f) :=
  (ps_expr (pe_bm PySem.F.plainAttrs_list PySem.F.slot_list_extend PySem.F.type_list_extend mt_extend hx (pa_cons (he.imp fun _ _ _ z => tQ_any z : PQ X W false e f) pa_nil hst) hbase hfew hline hst hplain) hs).imp fun D σ H q => ext_ok q
theorem pq_pop (hx : PE X (.Name x p1) (tVar i)) (hbase : attributeBase (.Name x p1) "pop" X.env (eval (.Name x p1) X.env) = eval (.Name x p1) X.env := by rfl) (hline : (p2.endLine == p3.line) = true := by rfl) :
    PQ X W false (.Call (.Attribute (.Name x p1) "pop" p2) [] [] p3) (sPop i) :=
  (pe_bm0 PySem.F.plainAttrs_list PySem.F.slot_list_pop PySem.F.type_list_pop mt_pop hx hbase hline).imp fun _ _ _ q => pop_ok q
theorem psq_reverse (hx : PE X (.Name x p1) (tVar i)) (hs : swapsWith (.Call (.Attribute (.Name x p1) "reverse" p2) [] [] p3) none pos.line X.env = pure false := by rfl) (hbase : attributeBase (.Name x p1) "reverse" X.env (eval (.Name x p1) X.env) = eval (.Name x p1) X.env := by rfl) (hline : (p2.endLine == p3.line) = true := by rfl) :
    PSQ X W P (.Expr (.Call (.Attribute (.Name x p1) "reverse" p2) [] [] p3) pos) (sRev i) :=
  (ps_expr (pe_bm0 PySem.F.plainAttrs_list PySem.F.slot_list_reverse PySem.F.type_list_reverse mt_reverse hx hbase hline) hs).imp fun _ _ _ q => rev_ok q
theorem psq_setAt (hx : PE X (.Name x p1) (tVar i)) (hk : PQ X W pb e2 fb) (he : PQ X W pa e fa)
    (ha : ∀ v, assign (.Subscript (.Name x p1) e2 p2) X.env v = (do
      let ov ← holding [v] (eval (.Name x p1) X.env)
      let iv ← holding [v, ov] (eval e2 X.env)
      standAt p2
      holding [v, ov, iv] (setItem ov iv v)
      release [v, ov, iv] []) := by intro _; rfl)
    (hs : swapsWithSole [.Subscript (.Name x p1) e2 p2] e pos.line X.env = pure false := by rfl) (hw : swappedStores [.Subscript (.Name x p1) e2 p2] e X.env = pure none := by rfl)
    (h1 : (assignEach [.Subscript (.Name x p1) e2 p2] X.env).map (·.2) = [assign (.Subscript (.Name x p1) e2 p2) X.env] := by rfl) :
    PSQ X W P (.Assign [.Subscript (.Name x p1) e2 p2] e pos) (sSetAt i (sCons pb fa (sCons true fb sNil))) :=
  (ps_asg he (pg_sub hx hk set_list ha) hs hw h1).imp fun D σ H q => setAt_ok q
end
end DL

/-! DL11: list comprehensions. -/
namespace DL
open PySem PySem.Spec PyProof.Rows L2

@[simp] def wipeE (env : En) : List Nat → En
  | [] => env
  | v :: vs => (wipeE env vs).set v none
theorem wipe_get (σ : L2.St) : ∀ (vs : List Nat) (j : Nat), (wipe σ vs)[j]? = if j ∈ vs ∧ j < σ.length then some none else σ[j]?
  | [], j => by simp [wipe]
  | v :: vs, j => by
    unfold wipe
    by_cases hv : v = j
    · subst hv
      by_cases hl : v < σ.length
      · rw [List.getElem?_set_self (by rw [wipe_length]; exact hl), if_pos ⟨List.mem_cons_self, hl⟩]
      · rw [if_neg (fun h => hl h.2), List.getElem?_eq_none (by simp [wipe_length]; omega), List.getElem?_eq_none (by omega)]
    · rw [List.getElem?_set_ne hv, wipe_get σ vs j]
      have : (j ∈ v :: vs) ↔ j ∈ vs := by simp [Ne.symm hv]
      simp [this]
theorem wipe_eq {σ σ2 : L2.St} {vs : List Nat} (hl : σ2.length = σ.length) (h : ∀ i, i < σ.length → i ∉ vs → σ2[i]? = σ[i]?) : wipe σ2 vs = wipe σ vs := by
  apply List.ext_getElem?
  intro j
  rw [wipe_get, wipe_get, hl]
  split
  · rfl
  · rename_i hn
    by_cases hj : j < σ.length
    · exact h j hj fun m => hn ⟨m, hj⟩
    · rw [List.getElem?_eq_none (by omega), List.getElem?_eq_none (by omega)]
theorem wipe_wipe (σ : L2.St) (vs : List Nat) : wipe (wipe σ vs) vs = wipe σ vs := by
  apply wipe_eq (by rw [wipe_length])
  intro i hi hn
  rw [wipe_get, if_neg (fun h => hn h.1)]
section
variable {K : PySem.W.Frag} {Z H : Hp}
theorem EnvR.drop1 {env : En} {σ : L2.St} {F : List Addr} (er : EnvR K Z H env σ F) : ∀ (i : Nat), ∃ F', F'.Sublist F ∧ EnvR K Z H (env.set i none) (σ.set i none) F' := by
  induction er with
  | nil => exact fun i => ⟨[], .refl _, .nil⟩
  | @cons e o F0 env σ G s r ih =>
    intro i
    cases i with
    | zero => exact ⟨G, List.sublist_append_right _ _, EnvR.cons (F := []) .no r⟩
    | succ i =>
      obtain ⟨F', h1, h2⟩ := ih i
      exact ⟨F0 ++ F', h1.append_left F0, .cons s h2⟩
theorem EnvR.wiped {env : En} {σ : L2.St} {F : List Addr} (er : EnvR K Z H env σ F) : ∀ (vs : List Nat), ∃ F', F'.Sublist F ∧ EnvR K Z H (wipeE env vs) (wipe σ vs) F'
  | [] => ⟨F, .refl _, er⟩
  | v :: vs => by
    obtain ⟨F1, h1, h2⟩ := EnvR.wiped er vs
    obtain ⟨F2, h3, h4⟩ := h2.drop1 v
    exact ⟨F2, h3.trans h1, h4⟩
theorem EnvR.other {env : En} {σ1 : L2.St} {F : List Addr} (er : EnvR K Z H env σ1 F) : ∀ {σ2 : L2.St}, σ2.length = σ1.length → (∀ i : Nat, env[i]? = some none ∨ σ2[i]? = σ1[i]?) → EnvR K Z H env σ2 F := by
  induction er with
  | nil =>
    intro σ2 hl _
    cases σ2 with
    | nil => exact .nil
    | cons _ _ => simp at hl
  | @cons e o F0 env σ G s r ih =>
    intro σ2 hl h
    cases σ2 with
    | nil => simp at hl
    | cons o2 σ2 =>
      refine .cons ?_ (ih (by simpa using hl) fun i => by simpa using h (i + 1))
      rcases h 0 with h | h
      · simp at h; subst h
        cases s; exact .no
      · simp at h; subst h; exact s
theorem wipeE_get (env : En) : ∀ (vs : List Nat) (j : Nat), j ∈ vs → j < env.length → (wipeE env vs)[j]? = some none
  | [], j, h, _ => by simp at h
  | v :: vs, j, h, hl => by
    have hlen : ∀ (vs : List Nat), (wipeE env vs).length = env.length := fun vs => by
      induction vs with
      | nil => rfl
      | cons v vs ih => simp [wipeE, ih]
    unfold wipeE
    by_cases hv : v = j
    · subst hv; rw [List.getElem?_set_self (by rw [hlen]; exact hl)]
    · rw [List.getElem?_set_ne hv]
      exact wipeE_get env vs j ((List.mem_cons.mp h).resolve_left (Ne.symm hv)) hl
theorem wipeE_length (env : En) (vs : List Nat) : (wipeE env vs).length = env.length := by
  induction vs with
  | nil => rfl
  | cons v vs ih => simp [wipeE, ih]
theorem EnvR.unwipe {env : En} {σ : L2.St} {vs : List Nat} {F : List Addr} (er : EnvR K Z H (wipeE env vs) (wipe σ vs) F) : EnvR K Z H (wipeE env vs) σ F := by
  refine er.other (by rw [wipe_length]) fun i => ?_
  have hl := er.length
  rw [wipeE_length, wipe_length] at hl
  by_cases hi : i ∈ vs ∧ i < σ.length
  · exact .inl (wipeE_get env vs i hi.1 (by omega))
  · exact .inr (by rw [wipe_get, if_neg hi])
/-- an owned list is written in place -/
theorem upd_in {F : List Addr} {a : Addr} {ws ws' : List V} (ok : Ok Z H F) (ha : a ∈ F) (h : H a = some (.lst ws)) :
    Ok Z (upd H a (.lst ws')) F ∧ Ext Z H F Z (upd H a (.lst ws')) F ∧ (∀ b xs, H b = some (.tup xs) → (upd H a (.lst ws')) b = some (.tup xs)) := by
  refine ⟨⟨fun b o q => ?_, ok.nod, ok.dis, fun b hb => ?_⟩, ⟨fun _ _ h => h, fun b o q n => ?_, fun b h => .inl h, fun _ _ h => .inl h⟩, fun b xs q => ?_⟩
  · have : b ≠ a := fun e => by subst e; rw [ok.dis b ha] at q; cases q
    rw [upd_ne this]; exact ok.sub b o q
  · by_cases e : b = a
    · subst e; rw [upd_same]; trivial
    · rw [upd_ne e]; exact ok.mu b hb
  · have : b ≠ a := fun e => n (by rw [e]; exact ha)
    rw [upd_ne this]; exact q
  · have : b ≠ a := fun e => by
      subst e
      rw [h] at q; cases q
    rw [upd_ne this]; exact q
end
abbrev W0 : WX := fun _ _ _ _ => False
/-- a comprehension's loop: slots own are its names -/
def compF (own : List Nat) (s : GM) (fc : EM Bool) (fe : EM Opd) : List D → En → List T → Option (List T × En)
  | [], env, acc => some (acc, env)
  | d :: ds, env, acc => match s (.z d) env with
    | none => none
    | some e1 => match fc e1 with
      | some (.ok true e2) => match fe e2 with
        | some (.ok o e3) => match o.take e3 with
          | some (t, e4) => if acc.length < sizeLine then compF own s fc fe ds (wipeE e4 own) (acc ++ [t]) else none
          | none => none
        | _ => none
      | some (.ok false e2) => compF own s fc fe ds (wipeE e2 own) acc
      | _ => none
section
variable {K : PySem.W.Frag} {σ : L2.St} {Z H : Hp} {F : List Addr} {own : List Nat} {s : GM} {fc : EM Bool} {fe : EM Opd} {ds : List D} {vs : List V} {ts : List T} {e2 : En} {L : Addr} {P' : List Nat} {pc pe : Bool}
/-- what holds ahead of turn k -/
def CInv (K : PySem.W.Frag) (σ : L2.St) (Z H : Hp) (F : List Addr) (own : List Nat) (s : GM) (fc : EM Bool) (fe : EM Opd) (ds : List D) (ts : List T) (e2 : En) (L : Addr) (k : Nat) (H' : Hp) : Prop :=
  ∃ Z' env' F' Gd acc ws, Ok Z' H' (F' ++ (L :: Gd)) ∧ EnvR K Z' H' (wipeE env' own) (wipe σ own) F' ∧ H' L = some (.lst ws) ∧ RepTs K Z' H' acc ws Gd ∧ Ext Z H F Z' H' (F' ++ (L :: Gd)) ∧
    compF own s fc fe (ds.drop k) (wipeE env' own) acc = some (ts, e2)
theorem comp_turn (hP : ∀ i, i < σ.length → i ∉ own → i ∈ P') {k : Nat} {x : V} (hx : vs[k]? = some x) (okF : Ok Z H F) (rs : Reps K Z H ds vs) {H1 : Hp} (h : CInv K σ Z H F own s fc fe ds ts e2 L k H1) :
    tG K P' s x (wipe σ own) H1 fun σ2 H2 => wipe σ2 own = wipe σ own ∧ tTQ K W0 pc fc σ2 H2 fun b H3 =>
      if b = true then tQ K W0 pe fe σ2 H3 fun y H4 => ∃ acc, H4 L = some (.lst acc) ∧ acc.length < sizeLine ∧ CInv K σ Z H F own s fc fe ds ts e2 L (k + 1) (upd H4 L (.lst (acc ++ [y])))
      else CInv K σ Z H F own s fc fe ds ts e2 L (k + 1) H3 := by
  obtain ⟨Z1, env1, F1, Gd, acc, ws, ok1, er1, hL, ra, x1, e⟩ := h
  have hk : k < ds.length := by
    rw [rs.length]
    exact (List.getElem?_eq_some_iff.mp hx).1
  obtain ⟨v, hv, rd⟩ := rs.get (i := k) (d := ds[k]) (by simp [hk])
  rw [hx] at hv
  have hv' := Option.some.inj hv
  subst hv'
  rw [List.drop_eq_getElem_cons hk] at e
  unfold compF at e
  split at e
  · cases e
  · rename_i e1 he1
    refine ⟨Z1, _, F1, .z ds[k], [], by simpa using ok1.left, er1, .z (rd.mono x1.zz (x1.tt okF)), e1, he1, fun σ2 F2 x2 ok2 er2 pn2 => ?_⟩
    simp only [List.append_nil] at x2
    have hw : wipe σ2 own = wipe σ own := by
      have hl2 : σ2.length = (wipe σ own).length := pn2.1
      have : wipe σ2 own = wipe (wipe σ own) own := wipe_eq hl2 fun i hi hn => pn2.2 i (hP i (by rw [wipe_length] at hi; exact hi) hn)
      rw [this, wipe_wipe]
    refine ⟨hw, ?_⟩
    have okb2 : Ok Z1 H1 (F2 ++ (L :: Gd)) := Ok.beside x2 ok2 ok1
    have x12 : Ext Z H F Z1 H1 (F2 ++ (L :: Gd)) := x1.trans (x2.wide (G := L :: Gd))
    have go : ∀ {r : Res Bool}, fc e1 = some r → (∀ b e3, r = .ok b e3 → ∀ H3 Z3 F3, Ext Z1 H1 F2 Z3 H3 F3 → Ok Z3 H3 F3 → EnvR K Z3 H3 e3 σ2 F3 → (if b = true then tQ K W0 pe fe σ2 H3 fun y H4 => ∃ acc, H4 L = some (.lst acc) ∧ acc.length < sizeLine ∧ CInv K σ Z H F own s fc fe ds ts e2 L (k + 1) (upd H4 L (.lst (acc ++ [y])))
      else CInv K σ Z H F own s fc fe ds ts e2 L (k + 1) H3)) → (∀ y e3, r ≠ .ex y e3) → tTQ K W0 pc fc σ2 H1 fun b H3 =>
      if b = true then tQ K W0 pe fe σ2 H3 fun y H4 => ∃ acc, H4 L = some (.lst acc) ∧ acc.length < sizeLine ∧ CInv K σ Z H F own s fc fe ds ts e2 L (k + 1) (upd H4 L (.lst (acc ++ [y])))
      else CInv K σ Z H F own s fc fe ds ts e2 L (k + 1) H3 := fun {r} hr h nx => by
      refine ⟨Z1, e1, F2, ok2, er2, r, hr, ?_⟩
      cases r with
      | ok b e3 => exact fun H3 Z3 F3 x3 ok3 er3 _ => h b e3 rfl H3 Z3 F3 x3 ok3 er3
      | ex y e3 => exact (nx y e3 rfl).elim
    split at e
    · rename_i e3 hc
      refine go hc (fun b e3' hb H3 Z3 F3 x3 ok3 er3 => ?_) (fun _ _ z => nomatch z)
      cases hb
      refine iteT ?_
      split at e
      · rename_i o e4 hfe
        split at e
        · rename_i t e5 ht
          split at e
          · rename_i hlt
            refine ⟨Z3, e3, F3, ok3, er3, _, hfe, fun y H4 Z4 F4 G4 x4 ok4 er4 or4 _ => ?_⟩
            obtain ⟨Z5, F5, G5, x5, ok5, er5, r5⟩ := take_ok ok4 er4 or4 ht
            have xx : Ext Z1 H1 F2 Z5 H4 (F5 ++ G5) := (x3.trans x4).trans x5
            have okb : Ok Z5 H4 ((F5 ++ G5) ++ (L :: Gd)) := Ok.beside xx ok5 okb2
            have nL : L ∉ F2 := fun m => (List.nodup_append.mp okb2.nod).2.2 L m L List.mem_cons_self rfl
            have hL4 : H4 L = some (.lst ws) := xx.hh L _ hL nL
            have okG : Ok Z1 H1 (F2 ++ Gd) := okb2.subF (List.Sublist.append_left (List.sublist_cons_self _ _) F2)
            have ra4 : RepTs K Z5 H4 acc ws Gd := ra.frame xx okG
            obtain ⟨F6, sl6, er6⟩ := er5.wiped own
            rw [hw] at er6
            have pm : ((F5 ++ G5) ++ (L :: Gd)).Perm (F5 ++ (L :: (Gd ++ G5))) := by
              rw [List.append_assoc]
              refine List.Perm.append_left F5 ?_
              have : (G5 ++ (L :: Gd)).Perm ((L :: Gd) ++ G5) := List.perm_append_comm
              simpa using this
            have okc : Ok Z5 H4 (F5 ++ (L :: (Gd ++ G5))) := okb.perm pm
            have slc : (F6 ++ (L :: (Gd ++ G5))).Sublist (F5 ++ (L :: (Gd ++ G5))) := sl6.append_right _
            have okd : Ok Z5 H4 (F6 ++ (L :: (Gd ++ G5))) := okc.subF slc
            obtain ⟨oke, xe, tte⟩ := upd_in (ws' := ws ++ [y]) okd (by simp) hL4
            have nLF : L ∉ F6 := fun m => (List.nodup_append.mp okd.nod).2.2 L m L List.mem_cons_self rfl
            have nLG : L ∉ Gd ++ G5 := (List.nodup_cons.mp (List.nodup_append.mp okd.nod).2.1).1
            refine ⟨ws, hL4, by rw [← ra4.length]; exact hlt, Z5, e5, F6, Gd ++ G5, acc ++ [t], ws ++ [y], oke, er6.keep (fun _ _ h => h) tte (fun b hb o q => ?_), upd_same, (ra4.snoc r5).keep (fun _ _ h => h) tte (fun b hb o q => ?_), ?_, e⟩
            · rw [upd_ne (fun z => nLF (by rw [← z]; exact hb))]; exact q
            · rw [upd_ne (fun z => nLG (by rw [← z]; exact hb))]; exact q
            · exact ((x12.trans (xx.wide (G := L :: Gd))).sub fun a ha => pm.mem_iff.mpr (slc.subset ha)).trans xe
          · cases e
        · cases e
      · cases e
    · rename_i e3 hc
      refine go hc (fun b e3' hb H3 Z3 F3 x3 ok3 er3 => ?_) (fun _ _ z => nomatch z)
      cases hb
      refine iteF ?_
      have okb : Ok Z3 H3 (F3 ++ (L :: Gd)) := Ok.beside x3 ok3 okb2
      have nL : L ∉ F2 := fun m => (List.nodup_append.mp okb2.nod).2.2 L m L List.mem_cons_self rfl
      have okG : Ok Z1 H1 (F2 ++ Gd) := okb2.subF (List.Sublist.append_left (List.sublist_cons_self _ _) F2)
      obtain ⟨F6, sl6, er6⟩ := er3.wiped own
      rw [hw] at er6
      have slc : (F6 ++ (L :: Gd)).Sublist (F3 ++ (L :: Gd)) := sl6.append_right _
      exact ⟨Z3, e3, F6, Gd, acc, ws, okb.subF slc, er6, x3.hh L _ hL nL, ra.frame x3 okG, (x12.trans (x3.wide (G := L :: Gd))).sub fun a ha => slc.subset ha, e⟩
    · cases e
/-- the new list laid -/
theorem comp_start {env : En} (okF : Ok Z H F) (er : EnvR K Z H env σ F) (hn : H L = none) (e : compF own s fc fe ds (wipeE env own) [] = some (ts, e2)) : CInv K σ Z H F own s fc fe ds ts e2 L 0 (upd H L (.lst [])) := by
  obtain ⟨F6, sl6, er6⟩ := er.wiped own
  have g := grow_upd (o := .lst []) hn
  have ok2 : Ok Z (upd H L (.lst [])) (F6 ++ [L]) := (okF.subF sl6).grown g (fresh1 hn) (by simp) fun a ha => by rw [List.mem_singleton.mp ha, upd_same]; trivial
  exact ⟨Z, env, F6, [], [], [], ok2, er6.grown g, upd_same, .nil, (Ext.subF fun a ha => sl6.subset ha).trans (Ext.grown g (fresh1 hn)), by simpa using e⟩
theorem comp_end {Q : VK} (h : CInv K σ Z H F own s fc fe ds ts e2 L ds.length H') (hq : ∀ Z' F' G, Ext Z H F Z' H' (F' ++ G) → Ok Z' H' (F' ++ G) → EnvR K Z' H' e2 σ F' → RepT K Z' H' (.lst ts) (.ref L) G → Q (.ref L) H') : Q (.ref L) H' := by
  obtain ⟨Z1, env1, F1, Gd, acc, ws, ok1, er1, hL, ra, x1, e⟩ := h
  rw [List.drop_length] at e
  cases e
  exact hq Z1 F1 (L :: Gd) x1 ok1 er1.unwipe (.lst hL ra)
end

/-! ### the sources -/
def sLc (own : List Nat) (fi : EM Opd) (s : GM) (fc : EM Bool) (fe : EM Opd) : EM Opd := fun env => match fi env with
  | some (.ok (.t u) e1) => match u.els with
    | some ds => match compF own s fc fe ds (wipeE e1 own) [] with
      | some (ts, e2) => some (.ok (.t (.lst ts)) e2)
      | none => none
    | none => none
  | _ => none
def sLcN (own : List Nat) (i : Nat) (s : GM) (fc : EM Bool) (fe : EM Opd) : EM Opd := fun env => match env[i]? with
  | some (some (.z d)) => match (T.z d).els with
    | some ds => match compF own s fc fe ds (wipeE env own) [] with
      | some (ts, e2) => some (.ok (.t (.lst ts)) e2)
      | none => none
    | none => none
  | some (some u) => match u.els with
    | some ds => match compF own s fc fe ds (wipeE (env.set i none) own) [] with
      | some (ts, e2) => if i < e2.length then some (.ok (.t (.lst ts)) (e2.set i (some u))) else none
      | none => none
    | none => none
  | _ => none
def sLcR (own : List Nat) (gr : List D → Option (Int × Nat)) (fr : EM (List Opd)) (s : GM) (fc : EM Bool) (fe : EM Opd) : EM Opd := fun env => match fr env with
  | some (.ok os e1) => match rds e1 os with
    | some ds => match gr ds with
      | some (lo, n) => match compF own s fc fe (rngD lo n) (wipeE e1 own) [] with
        | some (ts, e2) => some (.ok (.t (.lst ts)) e2)
        | none => none
      | none => none
    | none => none
  | _ => none
section
variable {K : PySem.W.Frag} {W : WX} {σ : L2.St} {H : Hp} {own : List Nat} {s : GM} {fc : EM Bool} {fe : EM Opd} {P' : List Nat} {pc pe : Bool} {Q : VK}
/-- the walk over a T's items -/
theorem lc_run (hP : ∀ i, i < σ.length → i ∉ own → i ∈ P') {Z : Hp} {F G : List Addr} {env : En} {u : T} {v : V} {ds : List D} {ts : List T} {e2 : En} (ok : Ok Z H (F ++ G)) (er : EnvR K Z H env σ F) (r : RepT K Z H u v G) (e : u.els = some ds) (ec : compF own s fc fe ds (wipeE env own) [] = some (ts, e2))
    (hq : ∀ L H' Z' F' G', Ext Z H F Z' H' (F' ++ G') → Ok Z' H' (F' ++ G') → EnvR K Z' H' e2 σ F' → RepT K Z' H' (.lst ts) (.ref L) G' → Q (.ref L) H') :
    ∃ a, v = .ref a ∧ (((∃ xs, SqL K H a xs) ∧ ∀ D, H D = none → ∃ W' : Nat → Nat → Hp → Prop, (∃ m, W' 0 m (upd H D (.lst []))) ∧ ∀ i m H, W' i m H →
      ((Itl K a).stop i H ∧ Q (.ref D) H) ∨ ((Itl K a).go i H ∧ ∃ Nx : Hp → Prop, (∀ H', Nx H' → ∃ m', m' < m ∧ W' (i + 1) m' H') ∧ ∀ x H', (Itl K a).yld i H x H' → tG K P' s x (wipe σ own) H' fun σ2 H2 => wipe σ2 own = wipe σ own ∧ tTQ K W0 pc fc σ2 H2 fun b H3 =>
        if b = true then tQ K W0 pe fe σ2 H3 fun y H4 => ∃ acc, H4 D = some (.lst acc) ∧ acc.length < sizeLine ∧ Nx (upd H4 D (.lst (acc ++ [y]))) else Nx H3)) ∨
     ((∃ xs, SqT K H a xs) ∧ ∀ D, H D = none → ∃ W' : Nat → Nat → Hp → Prop, (∃ m, W' 0 m (upd H D (.lst []))) ∧ ∀ i m H, W' i m H →
      ((Itt K a).stop i H ∧ Q (.ref D) H) ∨ ((Itt K a).go i H ∧ ∃ Nx : Hp → Prop, (∀ H', Nx H' → ∃ m', m' < m ∧ W' (i + 1) m' H') ∧ ∀ x H', (Itt K a).yld i H x H' → tG K P' s x (wipe σ own) H' fun σ2 H2 => wipe σ2 own = wipe σ own ∧ tTQ K W0 pc fc σ2 H2 fun b H3 =>
        if b = true then tQ K W0 pe fe σ2 H3 fun y H4 => ∃ acc, H4 D = some (.lst acc) ∧ acc.length < sizeLine ∧ Nx (upd H4 D (.lst (acc ++ [y]))) else Nx H3))) := by
  obtain ⟨a, vs, rfl, rs, st⟩ := els_stay (F := F) r ok e
  refine ⟨a, rfl, ?_⟩
  -- what is owned beside stays through the loop
  have seqK : ∀ {L : Addr} {k : Nat} {H' : Hp}, CInv K σ Z H F own s fc fe ds ts e2 L k H' → ∃ Z' F', Ext Z H F Z' H' F' ∧ Ok Z' H' F' := fun ⟨Z', env', F', Gd, acc, ws, a, _, _, _, b, _⟩ => ⟨Z', _, b, a⟩
  rcases st with st | st
  · refine .inl ⟨⟨vs, st Z H F Ext.refl ok.left⟩, fun L hn => ?_⟩
    refine lc_list (K := K) (a := a) (xs := vs) (CInv K σ Z H F own s fc fe ds ts e2 L) (comp_start ok.left er hn ec) (fun i H' _ h => ?_) (fun i x H' hx h => comp_turn hP hx ok.left rs h) fun H' h => ?_
    · obtain ⟨Z', F', x, o⟩ := seqK h
      exact st Z' H' F' x o
    · rw [← rs.length] at h
      exact comp_end (Q := Q) h fun Z' F' G' a b c d => hq L H' Z' F' G' a b c d
  · refine .inr ⟨⟨vs, st Z H F Ext.refl⟩, fun L hn => ?_⟩
    refine lc_tup (K := K) (a := a) (xs := vs) (CInv K σ Z H F own s fc fe ds ts e2 L) (comp_start ok.left er hn ec) (fun i H' _ h => ?_) (fun i x H' hx h => comp_turn hP hx ok.left rs h) fun H' h => ?_
    · obtain ⟨Z', F', x, o⟩ := seqK h
      exact st Z' H' F' x
    · rw [← rs.length] at h
      exact comp_end (Q := Q) h fun Z' F' G' a b c d => hq L H' Z' F' G' a b c d
theorem lcE_ok (hP : ∀ i, i < σ.length → i ∉ own → i ∈ P') {fi : EM Opd} (q : tQ K W false (sLc own fi s fc fe) σ H Q) : tLc (iAny K (tQ K W false fi)) (tG K P' s) (tTQ K W0 pc fc) (tQ K W0 pe fe) own σ H Q := by
  obtain ⟨Z, env, F, ok, er, r, hr, post⟩ := q
  unfold sLc at hr
  split at hr
  · rename_i u e1 hf
    split at hr
    · rename_i ds hd
      split at hr
      · rename_i ts e2 hc
        cases hr
        refine ⟨Z, env, F, ok, er, _, hf, fun v H1 Z1 F1 G1 x1 ok1 er1 or1 _ => ?_⟩
        cases or1 with
        | t r1 =>
          refine lc_run hP ok1 er1 r1 hd hc fun L H' Z' F' G' x2 ok2 er2 r2 => ?_
          exact post (.ref L) H' Z' F' G' ((x1.sub fun a ha => List.mem_append_left _ ha).trans x2) ok2 er2 (.t r2) fun z => nomatch z
      · cases hr
    · cases hr
  · cases hr
theorem lcN_ok (hP : ∀ i, i < σ.length → i ∉ own → i ∈ P') {i : Nat} (q : tQ K W false (sLcN own i s fc fe) σ H Q) : tLc (iAny K (tVar i)) (tG K P' s) (tTQ K W0 pc fc) (tQ K W0 pe fe) own σ H Q := by
  obtain ⟨Z, env, F, ok, er, r, hr, post⟩ := q
  unfold sLcN at hr
  split at hr
  · rename_i d he
    split at hr
    · rename_i ds hd
      split at hr
      · rename_i ts e2 hc
        cases hr
        obtain ⟨v, Fi, h1, h2, _⟩ := er.at he
        cases h2 with
        | z h2 =>
          refine ⟨v, h1, lc_run (G := []) hP (by simpa using ok) er (.z h2) hd hc fun L H' Z' F' G' x2 ok2 er2 r2 => ?_⟩
          exact post (.ref L) H' Z' F' G' x2 ok2 er2 (.t r2) fun z => nomatch z
      · cases hr
    · cases hr
  · rename_i u _ he
    split at hr
    · rename_i ds hd
      split at hr
      · rename_i ts e2 hc
        split at hr
        · rename_i hi
          cases hr
          obtain ⟨A, Fi, B, o', e1, e2', e3, e4⟩ := er.lens he
          cases e3 with
          | @so _ v _ r =>
            have er0 := e4 Z H (fun _ _ z => z) (fun _ _ z => z) (fun _ _ _ z => z) none (some v) [] .no
            rw [set_same e2'] at er0
            simp only [List.append_nil] at er0
            subst e1
            have pm : (A ++ Fi ++ B).Perm ((A ++ B) ++ Fi) := by
              simp only [List.append_assoc]
              exact List.Perm.append_left A List.perm_append_comm
            have ok0 : Ok Z H ((A ++ B) ++ Fi) := ok.perm pm
            refine ⟨v, e2', lc_run hP ok0 er0 r hd hc fun L H' Z' F' G' x2 ok2 er2 r2 => ?_⟩
            have okb : Ok Z' H' ((F' ++ G') ++ Fi) := Ok.beside x2 ok2 ok0
            have rr := r.frame x2 ok0
            have pm2 : ((F' ++ G') ++ Fi).Perm ((F' ++ Fi) ++ G') := by
              simp only [List.append_assoc]
              exact List.Perm.append_left F' List.perm_append_comm
            have okc := okb.perm pm2
            obtain ⟨F4, x4, ok4, er4⟩ := er2.put okc.left rr hi
            rw [set_same e2'] at er4
            have okd := Ok.beside x4 ok4 okc
            refine post (.ref L) H' Z' F4 G' ?_ okd er4 (.t r2) fun z => nomatch z
            have xa : Ext Z H (A ++ Fi ++ B) Z H ((A ++ B) ++ Fi) := Ext.subF fun a ha => pm.mem_iff.mpr ha
            exact ((xa.trans (x2.wide (G := Fi))).sub fun a ha => pm2.mem_iff.mpr ha).trans (x4.wide (G := G'))
        · cases hr
      · cases hr
    · cases hr
  · cases hr
theorem lcRng (hP : ∀ i, i < σ.length → i ∉ own → i ∈ P') {Z : Hp} {F : List Addr} {env : En} {lo : Int} {n : Nat} {ts : List T} {e2 : En} (ok : Ok Z H F) (er : EnvR K Z H env σ F) (ec : compF own s fc fe (rngD lo n) (wipeE env own) [] = some (ts, e2))
    (hq : ∀ L H' Z' F' G', Ext Z H F Z' H' (F' ++ G') → Ok Z' H' (F' ++ G') → EnvR K Z' H' e2 σ F' → RepT K Z' H' (.lst ts) (.ref L) G' → Q (.ref L) H') :
    ∀ D, H D = none → ∃ W' : Nat → Nat → Hp → Prop, (∃ m, W' 0 m (upd H D (.lst []))) ∧ ∀ i m H, W' i m H →
      ((Itr lo n).stop i H ∧ Q (.ref D) H) ∨ ((Itr lo n).go i H ∧ ∃ Nx : Hp → Prop, (∀ H', Nx H' → ∃ m', m' < m ∧ W' (i + 1) m' H') ∧ ∀ x H', (Itr lo n).yld i H x H' → tG K P' s x (wipe σ own) H' fun σ2 H2 => wipe σ2 own = wipe σ own ∧ tTQ K W0 pc fc σ2 H2 fun b H3 =>
        if b = true then tQ K W0 pe fe σ2 H3 fun y H4 => ∃ acc, H4 D = some (.lst acc) ∧ acc.length < sizeLine ∧ Nx (upd H4 D (.lst (acc ++ [y]))) else Nx H3) := by
  intro L hn
  have rs : Reps K Z H (rngD lo n) ((List.range n).map fun i : Nat => V.int (lo + (i : Int))) := by
    have : ∀ (n : Nat) (lo : Int), Reps K Z H (rngD lo n) ((List.range n).map fun i : Nat => V.int (lo + (i : Int))) := by
      intro n
      induction n with
      | zero => intro lo; exact .nil
      | succ n ih =>
        intro lo
        rw [List.range_succ_eq_map, List.map_cons, List.map_map]
        refine .cons (by simpa using Rep.int) ?_
        have z := ih (lo + 1)
        have e : (List.map (fun i : Nat => V.int (lo + 1 + (i : Int))) (List.range n)) = List.map ((fun i : Nat => V.int (lo + (i : Int))) ∘ Nat.succ) (List.range n) := by
          apply List.map_congr_left
          intro i _
          simp only [Function.comp]
          congr 1
          push_cast
          omega
        rw [← e]; exact z
    exact this n lo
  refine lc_range (lo := lo) (n := n) (CInv K σ Z H F own s fc fe (rngD lo n) ts e2 L) (comp_start ok er hn ec) (fun i H' hi h => comp_turn hP (by simp [hi]) ok rs h) fun H' h => ?_
  have hl : (rngD lo n).length = n := rngD_length lo n
  have h2 : CInv K σ Z H F own s fc fe (rngD lo n) ts e2 L (rngD lo n).length H' := by rw [hl]; exact h
  exact comp_end (Q := Q) h2 fun Z' F' G' a b c d => hq L H' Z' F' G' a b c d
theorem lcR1_ok (hP : ∀ i, i < σ.length → i ∉ own → i ∈ P') {fr : EM (List Opd)} (q : tQ K W false (sLcR own gRng1 fr s fc fe) σ H Q) : tLc (iRng1 (tAQ K W false fr)) (tG K P' s) (tTQ K W0 pc fc) (tQ K W0 pe fe) own σ H Q := by
  obtain ⟨Z, env, F, ok, er, r, hr, post⟩ := q
  unfold sLcR at hr
  split at hr
  · rename_i os e1 hf
    split at hr
    · rename_i ds hd
      split at hr
      · rename_i lo n hg
        split at hr
        · rename_i ts e2 hc
          cases hr
          refine ⟨Z, env, F, ok, er, _, hf, fun vs H1 Z1 F1 G1 x1 ok1 er1 or1 _ => ?_⟩
          have rd := or1.look ok1.sub er1 hd
          unfold gRng1 at hg
          split at hg
          · split at hg
            · rename_i hj
              cases hg
              obtain ⟨x, rfl, r1⟩ := rd.one
              have := r1.v_int; subst this
              have hj := inB_iff.mp hj
              refine ⟨_, rfl, hj.1, hj.2, lcRng hP ok1.left er1 hc fun L H' Z' F' G' x2 ok2 er2 r2 => ?_⟩
              exact post (.ref L) H' Z' F' G' ((x1.sub fun a ha => List.mem_append_left _ ha).trans x2) ok2 er2 (.t r2) fun z => nomatch z
            · cases hg
          · cases hg
        · cases hr
      · cases hr
    · cases hr
  · cases hr
theorem lcR2_ok (hP : ∀ i, i < σ.length → i ∉ own → i ∈ P') {fr : EM (List Opd)} (q : tQ K W false (sLcR own gRng2 fr s fc fe) σ H Q) : tLc (iRng2 (tAQ K W false fr)) (tG K P' s) (tTQ K W0 pc fc) (tQ K W0 pe fe) own σ H Q := by
  obtain ⟨Z, env, F, ok, er, r, hr, post⟩ := q
  unfold sLcR at hr
  split at hr
  · rename_i os e1 hf
    split at hr
    · rename_i ds hd
      split at hr
      · rename_i lo n hg
        split at hr
        · rename_i ts e2 hc
          cases hr
          refine ⟨Z, env, F, ok, er, _, hf, fun vs H1 Z1 F1 G1 x1 ok1 er1 or1 _ => ?_⟩
          have rd := or1.look ok1.sub er1 hd
          unfold gRng2 at hg
          split at hg
          · split at hg
            · rename_i hj
              cases hg
              obtain ⟨x, y, rfl, r1, r2⟩ := rd.two
              have h1 := r1.v_int
              have h2 := r2.v_int
              subst h1 h2
              have hj1 := inB_iff.mp hj.1
              have hj2 := inB_iff.mp hj.2
              refine ⟨_, _, rfl, ⟨hj1.1, hj1.2, hj2.1, hj2.2⟩, lcRng hP ok1.left er1 hc fun L H' Z' F' G' x2 ok2 er2 r2 => ?_⟩
              exact post (.ref L) H' Z' F' G' ((x1.sub fun a ha => List.mem_append_left _ ha).trans x2) ok2 er2 (.t r2) fun z => nomatch z
            · cases hg
          · cases hg
        · cases hr
      · cases hr
    · cases hr
  · cases hr
end

theorem _root_.L2.PE.impI {X : Cx} {e : Expr} {t t' : TE} (h : PE X e t) (i : ∀ σ H Q, σ.length = X.N.length → t' σ H Q → t σ H Q) : PE X e t' := ⟨fun pins s σ H Q I q => h.run pins s σ H Q I (i σ H Q I.len q)⟩
theorem _root_.L2.PS.impI {X : Cx} {e : Stmt} {t t' : TS} (h : PS X e t) (i : ∀ D σ H, σ.length = X.N.length → t' D σ H → t D σ H) : PS X e t' := ⟨fun pins s σ H Q I q => h.run pins s σ H Q I (i Q σ H I.len q)⟩
def sYes : EM Bool := fun env => some (.ok true env)
/-- a clause's tests -/
abbrev PTsQ (X : Cx) (p : Bool) (ifs : List Expr) (f : EM Bool) : Prop := PTs X ifs (tTQ X.K W0 p f)
theorem ptsq_nil {X : Cx} {p : Bool} : PTsQ X p [] sYes := by
  refine ⟨fun pins s σ H Q I h => (pts_nil (X := X)).run pins s σ H Q I ?_⟩
  obtain ⟨Z, env, F, ok, er, r, hr, post⟩ := h
  cases hr
  exact post H Z F Ext.refl ok er fun _ => ⟨rfl, rfl, rfl, fun _ _ z => z⟩
theorem ptsq_one {X : Cx} {p : Bool} {c : Expr} {f : EM Bool} (h : PTQ X W0 p c f) : PTsQ X p [c] f := pts_one h
/-- the context of a comprehension's block -/
abbrev Blk (X : Cx) (scope : Scope) (Pr : Cx → Prop) : Prop := ∀ (s : Shared) (H : Hp) (C : Addr) (cl : List (Str × Addr)) (fp : List Addr), Pr (X.blk s H scope (compEnvC scope cl C X.env) fp)
section
variable {X : Cx} {W : WX} {P P' : List Nat} {elt tg iter e1 e2 : Expr} {ifs : List Expr} {scope : Scope} {own : List (Str × Nat)} {pos p1 pn : Pos} {s : GM} {fc : EM Bool} {fe fi : EM Opd} {fr : EM (List Opd)} {pc pe pi' : Bool} {x : Str} {i : Nat}
theorem pq_lcE (hc : X.calm = true) (hN : X.N.Nodup) (hi : PQ X W pi' iter fi) (ok : BlkOk X.N X.env.scope scope own) {m : Nat} (hP : ∀ i, i < m → i ∉ own.map (·.2) → i ∈ P')
    (hg : Blk X scope fun X' => PGQ X' P' tg s) (ht : Blk X scope fun X' => PTsQ X' pc ifs fc) (he : Blk X scope fun X' => PQ X' W0 pe elt fe) (hs : ∀ x, foldedSetIterable iter X.env x = pure x := by intro _; rfl) (hm' : X.N.length = m := by rfl) :
    PQ X W false (.ListComp elt [⟨tg, iter, ifs, 0⟩] scope pos) (sLc (own.map (·.2)) fi s fc fe) :=
  (pe_lc hc hN (pi_any (hi.imp fun _ _ _ z => tQ_any z : PQ X W false iter fi)) ok hg ht he hs).impI fun σ H Q hl q => lcE_ok (fun i hi hn => hP i (by rw [← hm', ← hl]; exact hi) hn) q
theorem pq_lcN (hc : X.calm = true) (hN : X.N.Nodup) (hi : PE X (.Name x p1) (tVar i)) (ok : BlkOk X.N X.env.scope scope own) {m : Nat} (hP : ∀ i, i < m → i ∉ own.map (·.2) → i ∈ P')
    (hg : Blk X scope fun X' => PGQ X' P' tg s) (ht : Blk X scope fun X' => PTsQ X' pc ifs fc) (he : Blk X scope fun X' => PQ X' W0 pe elt fe) (hm' : X.N.length = m := by rfl) :
    PQ X W false (.ListComp elt [⟨tg, .Name x p1, ifs, 0⟩] scope pos) (sLcN (own.map (·.2)) i s fc fe) :=
  (pe_lc hc hN (pi_any hi) ok hg ht he (by intro _; rfl)).impI fun σ H Q hl q => lcN_ok (fun i hi hn => hP i (by rw [← hm', ← hl]; exact hi) hn) q
theorem pq_lcR1 (hc : X.calm = true) (hN : X.N.Nodup) (hr : Gl X "range") (hm : X.mg "range" = none) (ha : PAQ X W pi' [e1] fr) (ok : BlkOk X.N X.env.scope scope own) {m : Nat} (hP : ∀ i, i < m → i ∉ own.map (·.2) → i ∈ P')
    (hg : Blk X scope fun X' => PGQ X' P' tg s) (ht : Blk X scope fun X' => PTsQ X' pc ifs fc) (he : Blk X scope fun X' => PQ X' W0 pe elt fe) (hs : starEach [e1] X.env = [(false, eval e1 X.env)] := by rfl) (hm' : X.N.length = m := by rfl) :
    PQ X W false (.ListComp elt [⟨tg, .Call (.Name "range" p1) [e1] [] pn, ifs, 0⟩] scope pos) (sLcR (own.map (·.2)) gRng1 fr s fc fe) :=
  (pe_lc hc hN (pi_range1 hr hm (ha.imp fun _ _ _ z => tAQ_any z : PAQ X W false [e1] fr) hs) ok hg ht he (by intro _; rfl)).impI fun σ H Q hl q => lcR1_ok (fun i hi hn => hP i (by rw [← hm', ← hl]; exact hi) hn) q
theorem pq_lcR2 (hc : X.calm = true) (hN : X.N.Nodup) (hr : Gl X "range") (hm : X.mg "range" = none) (ha : PAQ X W pi' [e1, e2] fr) (ok : BlkOk X.N X.env.scope scope own) {m : Nat} (hP : ∀ i, i < m → i ∉ own.map (·.2) → i ∈ P')
    (hg : Blk X scope fun X' => PGQ X' P' tg s) (ht : Blk X scope fun X' => PTsQ X' pc ifs fc) (he : Blk X scope fun X' => PQ X' W0 pe elt fe) (hs : starEach [e1, e2] X.env = [(false, eval e1 X.env), (false, eval e2 X.env)] := by rfl) (hs2 : starEach [e2] X.env = [(false, eval e2 X.env)] := by rfl) (hm' : X.N.length = m := by rfl) :
    PQ X W false (.ListComp elt [⟨tg, .Call (.Name "range" p1) [e1, e2] [] pn, ifs, 0⟩] scope pos) (sLcR (own.map (·.2)) gRng2 fr s fc fe) :=
  (pe_lc hc hN (pi_range2 hr hm (ha.imp fun _ _ _ z => tAQ_any z : PAQ X W false [e1, e2] fr) hs hs2) ok hg ht he (by intro _; rfl)).impI fun σ H Q hl q => lcR2_ok (fun i hi hn => hP i (by rw [← hm', ← hl]; exact hi) hn) q
/-! ### name = [..] on one line: the store is within the comprehension -/
def sSetLc (i : Nat) (f : EM Opd) : SM := sSet i f
theorem psq_setLcE {y : Str} {py spos : Pos} (hc : X.calm = true) (hN : X.N.Nodup) (hy : X.N[i]? = some y) (hyl : X.env.scope.names.lookup y = some .local) (hsw : swapsWith (.ListComp elt [⟨tg, iter, ifs, 0⟩] scope pos) (some (.Name y py)) spos.line X.env = pure true) (hi : PQ X W pi' iter fi) (ok : BlkOk X.N X.env.scope scope own) {m : Nat} (hP : ∀ i, i < m → i ∉ own.map (·.2) → i ∈ P')
    (hg : Blk X scope fun X' => PGQ X' P' tg s) (ht : Blk X scope fun X' => PTsQ X' pc ifs fc) (he : Blk X scope fun X' => PQ X' W0 pe elt fe) (hiP : i ∉ P := by decide) (hs : ∀ x, foldedSetIterable iter X.env x = pure x := by intro _; rfl) (hm' : X.N.length = m := by rfl) :
    PSQ X W P (.Assign [.Name y py] (.ListComp elt [⟨tg, iter, ifs, 0⟩] scope pos) spos) (sSet i (sLc (own.map (·.2)) fi s fc fe)) :=
  (ps_setLc hc hN hy hyl hsw (pi_any (hi.imp fun _ _ _ z => tQ_any z : PQ X W false iter fi)) ok hg ht he hs).impI fun D σ H hl q => lcE_ok (fun i hi hn => hP i (by rw [← hm', ← hl]; exact hi) hn) (asg_ok hiP q)
theorem psq_setLcN {y : Str} {py spos : Pos} {j : Nat} (hc : X.calm = true) (hN : X.N.Nodup) (hy : X.N[i]? = some y) (hyl : X.env.scope.names.lookup y = some .local) (hsw : swapsWith (.ListComp elt [⟨tg, .Name x p1, ifs, 0⟩] scope pos) (some (.Name y py)) spos.line X.env = pure true) (hi : PE X (.Name x p1) (tVar j)) (ok : BlkOk X.N X.env.scope scope own) {m : Nat} (hP : ∀ i, i < m → i ∉ own.map (·.2) → i ∈ P')
    (hg : Blk X scope fun X' => PGQ X' P' tg s) (ht : Blk X scope fun X' => PTsQ X' pc ifs fc) (he : Blk X scope fun X' => PQ X' W0 pe elt fe) (hiP : i ∉ P := by decide) (hm' : X.N.length = m := by rfl) :
    PSQ X W P (.Assign [.Name y py] (.ListComp elt [⟨tg, .Name x p1, ifs, 0⟩] scope pos) spos) (sSet i (sLcN (own.map (·.2)) j s fc fe)) :=
  (ps_setLc hc hN hy hyl hsw (pi_any hi) ok hg ht he (by intro _; rfl)).impI fun D σ H hl q => lcN_ok (fun i hi hn => hP i (by rw [← hm', ← hl]; exact hi) hn) (asg_ok hiP q)
theorem psq_setLcR1 {y : Str} {py spos : Pos} (hc : X.calm = true) (hN : X.N.Nodup) (hy : X.N[i]? = some y) (hyl : X.env.scope.names.lookup y = some .local) (hsw : swapsWith (.ListComp elt [⟨tg, .Call (.Name "range" p1) [e1] [] pn, ifs, 0⟩] scope pos) (some (.Name y py)) spos.line X.env = pure true) (hr : Gl X "range") (hm : X.mg "range" = none) (ha : PAQ X W pi' [e1] fr) (ok : BlkOk X.N X.env.scope scope own) {m : Nat} (hP : ∀ i, i < m → i ∉ own.map (·.2) → i ∈ P')
    (hg : Blk X scope fun X' => PGQ X' P' tg s) (ht : Blk X scope fun X' => PTsQ X' pc ifs fc) (he : Blk X scope fun X' => PQ X' W0 pe elt fe) (hiP : i ∉ P := by decide) (hs : starEach [e1] X.env = [(false, eval e1 X.env)] := by rfl) (hm' : X.N.length = m := by rfl) :
    PSQ X W P (.Assign [.Name y py] (.ListComp elt [⟨tg, .Call (.Name "range" p1) [e1] [] pn, ifs, 0⟩] scope pos) spos) (sSet i (sLcR (own.map (·.2)) gRng1 fr s fc fe)) :=
  (ps_setLc hc hN hy hyl hsw (pi_range1 hr hm (ha.imp fun _ _ _ z => tAQ_any z : PAQ X W false [e1] fr) hs) ok hg ht he (by intro _; rfl)).impI fun D σ H hl q => lcR1_ok (fun i hi hn => hP i (by rw [← hm', ← hl]; exact hi) hn) (asg_ok hiP q)
theorem psq_setLcR2 {y : Str} {py spos : Pos} (hc : X.calm = true) (hN : X.N.Nodup) (hy : X.N[i]? = some y) (hyl : X.env.scope.names.lookup y = some .local) (hsw : swapsWith (.ListComp elt [⟨tg, .Call (.Name "range" p1) [e1, e2] [] pn, ifs, 0⟩] scope pos) (some (.Name y py)) spos.line X.env = pure true) (hr : Gl X "range") (hm : X.mg "range" = none) (ha : PAQ X W pi' [e1, e2] fr) (ok : BlkOk X.N X.env.scope scope own) {m : Nat} (hP : ∀ i, i < m → i ∉ own.map (·.2) → i ∈ P')
    (hg : Blk X scope fun X' => PGQ X' P' tg s) (ht : Blk X scope fun X' => PTsQ X' pc ifs fc) (he : Blk X scope fun X' => PQ X' W0 pe elt fe) (hiP : i ∉ P := by decide) (hs : starEach [e1, e2] X.env = [(false, eval e1 X.env), (false, eval e2 X.env)] := by rfl) (hs2 : starEach [e2] X.env = [(false, eval e2 X.env)] := by rfl) (hm' : X.N.length = m := by rfl) :
    PSQ X W P (.Assign [.Name y py] (.ListComp elt [⟨tg, .Call (.Name "range" p1) [e1, e2] [] pn, ifs, 0⟩] scope pos) spos) (sSet i (sLcR (own.map (·.2)) gRng2 fr s fc fe)) :=
  (ps_setLc hc hN hy hyl hsw (pi_range2 hr hm (ha.imp fun _ _ _ z => tAQ_any z : PAQ X W false [e1, e2] fr) hs hs2) ok hg ht he (by intro _; rfl)).impI fun D σ H hl q => lcR2_ok (fun i hi hn => hP i (by rw [← hm', ← hl]; exact hi) hn) (asg_ok hiP q)
end
end DL

/-! DL12: sorted sets and lists of tuples of ints. -/
namespace DL
open PySem PySem.Spec PyProof.Rows L2

/-- tuples of ints, item by item -/
def ltI : List Int → List Int → Bool
  | [], [] => false
  | [], _ :: _ => true
  | _ :: _, [] => false
  | a :: as, b :: bs => decide (a < b) || (!decide (b < a) && ltI as bs)
theorem lexLt_inl : ∀ (a b : List Int), PyProof.Rows.lexLt itemOrd (a.map Sum.inl) (b.map Sum.inl) = ltI a b
  | [], [] => rfl
  | [], _ :: _ => rfl
  | _ :: _, [] => rfl
  | a :: as, b :: bs => by
    have ih := lexLt_inl as bs
    show (itemOrd.blt (Sum.inl a) (Sum.inl b) || (!itemOrd.blt (Sum.inl b) (Sum.inl a) && PyProof.Rows.lexLt itemOrd (as.map Sum.inl) (bs.map Sum.inl))) = _
    rw [ih]
    rfl
theorem tupItems_ints : ∀ (i : Nat) {us : List Value} {ns : List Int}, IntsAre us ns → tupItems (fun _ => false) i us = some (ns.map Sum.inl) := by
  intro i us ns h
  induction h generalizing i with
  | nil => rfl
  | @cons n t vs ns hh ih =>
    show (if false = true then none else (tupItems (fun _ => false) (i + 1) vs).map (Sum.inl n :: ·)) = _
    rw [if_neg Bool.false_ne_true, ih]
    rfl
/-- a tuple of dInts, its key -/
theorem tup_key {h : Heap} {v : Value} {ns : List Int} (t : TS.TupInts h v ns) : G.tupKeyC h (fun _ => false) v = some (ns.map Sum.inl) := by
  obtain ⟨a, xs, rfl, ⟨o, ho, hc, n, hd⟩, hi⟩ := t
  unfold G.tupKeyC
  have e1 : G.isTupObj h (.ref a) = true := by simp [G.isTupObj, ho, hc]
  rw [if_pos e1]
  simp only [tupKey, ho, hd]
  exact tupItems_ints 0 hi
theorem tup_of {h : Heap} {v : Value} {ns : List Int} (t : TS.TupInts h v ns) (hn : ns ≠ []) : ∃ f, TupOf h (fun _ => false) v f := by
  obtain ⟨a, xs, rfl, ⟨o, ho, hc, n, hd⟩, hi⟩ := t
  obtain ⟨l⟩ := xs
  cases hi with
  | nil => exact absurd rfl hn
  | cons n' t' hh => exact ⟨_, a, o, _, n, rfl, ho, hc, hd, rfl, fun _ => ⟨_, _, rfl⟩, fun e => nomatch e⟩
theorem tups_of {h : Heap} : ∀ {vs : List Value}, (∀ v ∈ vs, ∃ f, TupOf h (fun _ => false) v f) → ∃ fs, TupsOf h (fun _ => false) vs fs
  | [], _ => ⟨[], .nil⟩
  | v :: vs, hh => by
    obtain ⟨f, hf⟩ := hh v List.mem_cons_self
    obtain ⟨fs, hfs⟩ := tups_of (vs := vs) fun u hu => hh u (List.mem_cons_of_mem _ hu)
    exact ⟨f :: fs, .cons hf hfs⟩
/-- the sort's array, read as a list of values -/
theorem sort_out {h : Heap} {vs : List Value} {arr : Array Keyed} (hp : arr.Perm (pairsOf vs)) (hs : SortedToK (G.tupKindC h (fun _ => false)) arr (pairsOf vs).size) :
    (arr.map (·.2)).toList.Perm vs ∧ (arr.map (·.2)).toList.Pairwise (fun u v => PyProof.Rows.lexLt itemOrd ((G.tupKeyC h (fun _ => false) v).getD []) ((G.tupKeyC h (fun _ => false) u).getD []) = false) := by
  have hl : arr.toList.Perm (vs.zip vs) := by
    have e := Array.perm_iff_toList_perm.mp hp
    rw [pairsOf_toList] at e
    exact e
  have m : ∀ p ∈ arr.toList, p.1 = p.2 := fun p hp => (mem_zip_self (hl.mem_iff.mp hp)).1
  refine ⟨?_, ?_⟩
  · rw [Array.toList_map]
    have z := hl.map Prod.snd
    rw [List.map_snd_zip (Nat.le_refl _)] at z
    exact z
  · rw [Array.toList_map, List.pairwise_map, List.pairwise_iff_getElem]
    intro i j hi hj hij
    have hsz : (pairsOf vs).size = arr.size := by rw [pairsOf_size, ← Array.length_toList, hl.length_eq]; simp
    have e := hs i j (Nat.le_of_lt hij) (by rw [hsz]; simpa using hj)
    have gi : arr[i]? = some arr.toList[i] := by rw [← Array.getElem?_toList]; exact List.getElem?_eq_getElem hi
    have gj : arr[j]? = some arr.toList[j] := by rw [← Array.getElem?_toList]; exact List.getElem?_eq_getElem hj
    have ki : KK (G.tupKindC h (fun _ => false)) arr i = (G.tupKeyC h (fun _ => false) arr.toList[i].1).getD [] := by unfold KK; rw [gi]
    have kj : KK (G.tupKindC h (fun _ => false)) arr j = (G.tupKeyC h (fun _ => false) arr.toList[j].1).getD [] := by unfold KK; rw [gj]
    rw [ki, kj, m _ (List.getElem_mem hi), m _ (List.getElem_mem hj)] at e
    exact e
section
variable {P : Program} {w : World} {A : Around} {E : Value → Shared → Prop} {s : Shared}
/-- sorted(set) of tuples of ints, in the tuples' order -/
theorem sorted_set {a : Addr} {L : List (Addr × List Int)} {es : Array (Int × Value)} {ep : Nat} {t : SetTable} {Q : Value → Shared → Prop} (R : SetTR P w s.heap a L es ep t) (hh : A.handled = none) (hB : ∀ p ∈ L, p.2 ≠ [])
    (hQ : ∀ s' p (out : Array Value) (c : Nat) (L' : List (Addr × List Int)), (∀ b o, s.heap.get? b = some o → s'.heap.get? b = some o) → s'.gens = s.gens → s'.os = s.os → s.heap.objs.size ≤ p →
      s'.heap.get? p = some (seqObj "list" out c) → out.toList = L'.map (fun q => Value.ref q.1) → L'.Perm L → L'.Pairwise (fun q r => ltI r.2 q.2 = false) → Q (.ref p) s') :
    wpAny (model P w) A (call (.builtin "sorted") [.ref a]) Q E s := by
  obtain ⟨o, ho, hex, hd⟩ := R.ob
  have hsz := R.size
  have hfew := R.few
  refine Calls.call_function_entry kind_sorted plain_sorted entry_sorted (args_sorted1 _) ?_
  unfold Builtin.«sorted»
  refine wpAny_bind (m := checkCount "sorted" 1 1 _) (wpAny_pure ?_)
  refine wpAny_bind (collect_set (A := A.in1) hh ⟨o, ho, hex.1, hd⟩ R.fits (by unfold scanBound; omega) R.tab.ris R.led fun s1 vs k1 hz g1 o1 pm => ?_)
  have hes : es.toList.map (·.2) = L.map fun q => Value.ref q.1 := by
    rw [R.rows]
    unfold rowsOf
    rw [List.map_map] <;> rfl
  rw [hes] at pm
  have ord : ∀ vs : List Value, (∀ v ∈ vs, ∃ q ∈ L, v = Value.ref q.1) → ∃ L1 : List (Addr × List Int), vs = L1.map (fun q => Value.ref q.1) ∧ ∀ q ∈ L1, q ∈ L := by
    intro vs
    induction vs with
    | nil => intro _; exact ⟨[], rfl, fun q hq => (by cases hq)⟩
    | cons v vs ih =>
      intro hv
      obtain ⟨q, hq, e⟩ := hv v List.mem_cons_self
      obtain ⟨L1, e1, hs⟩ := ih fun u hu => hv u (List.mem_cons_of_mem _ hu)
      refine ⟨q :: L1, by rw [List.map_cons, e, e1], fun r hr => ?_⟩
      rcases List.mem_cons.mp hr with z | z
      · rw [z]; exact hq
      · exact hs r z
  have one : ∀ q ∈ L, ∀ r ∈ L, q.1 = r.1 → q = r := fun q hq r hr e => by
    have a1 := R.tup q hq
    have a2 := R.tup r hr
    rw [e] at a1
    have e2 : q.2 = r.2 := a1.inj a2
    exact Prod.ext e e2
  have perm_of : ∀ L1 : List (Addr × List Int), (∀ q ∈ L1, q ∈ L) → (L1.map (fun q => Value.ref q.1)).Perm (L.map fun q => Value.ref q.1) → L1.Perm L := by
    intro L1 hs pm1
    have nL : L.Nodup := nodup_of_map (R.nd)
    have nref : (L.map fun q => Value.ref q.1).Nodup := by
      refine List.pairwise_map.mpr (List.Pairwise.imp_of_mem (fun {q r} hq hr hne e => ?_) nL)
      injection e with e
      exact hne (one q hq r hr e)
    have n1 : L1.Nodup := nodup_of_map (pm1.nodup_iff.mpr nref)
    refine (List.perm_ext_iff_of_nodup n1 nL).mpr fun q => ⟨hs q, fun hq => ?_⟩
    have hm : Value.ref q.1 ∈ L1.map (fun q => Value.ref q.1) := pm1.mem_iff.mpr (List.mem_map.mpr ⟨q, hq, rfl⟩)
    obtain ⟨r, hr, e⟩ := List.mem_map.mp hm
    injection e with e
    rw [← one r (hs r hr) q hq e]
    exact hr
  have hvl : vs.length ≤ sizeLine := by rw [pm.length_eq, List.length_map, sizeLine_eq]; omega
  refine wpAny_bind (wpAny_newList ?_ hvl)
  have hoL : (s1.heap.push (seqObj "list" vs.toArray 0)).get? s1.heap.objs.size = some (seqObj "list" vs.toArray 0) := Heap.get?_push_size _ rfl
  have tk : ∀ q ∈ L, TS.TupInts (s1.heap.push (seqObj "list" vs.toArray 0)) (.ref q.1) q.2 := fun q hq => tupInts_of (P := P) (w := w) (isT_keep (R.tup q hq) fun b u e => Heap.get?_push_of_some _ (k1 b u e))
  have vin : ∀ v ∈ vs, ∃ q ∈ L, Value.ref q.1 = v := fun v hv => List.mem_map.mp (pm.mem_iff.mp hv)
  obtain ⟨fs, hfs⟩ := tups_of (h := s1.heap.push (seqObj "list" vs.toArray 0)) (vs := vs) fun v hv => by
    obtain ⟨q, hq, e⟩ := vin v hv
    rw [← e]
    exact tup_of (tk q hq) (hB q hq)
  refine wpAny_bind (wpAny_holding (wpAny_call_entry slot_list_sort ⟨_, hoL, rfl⟩ entry_list_sort (G.list_sort_tups (shape := fun _ => false) (s := { s1 with heap := s1.heap.push (seqObj "list" vs.toArray 0) }) hoL hfs (fun v hv => ?_) hvl fun st' a1 a2 _ => ⟨_, rfl, ?_⟩) (args_list_sort _)))
  · obtain ⟨q, hq, e⟩ := vin v hv
    rw [← e]
    exact ⟨_, tup_key (tk q hq)⟩
  · obtain ⟨b1, b2⟩ := sort_out a1 a2
    obtain ⟨c, hc⟩ := sortedHeap_at (vs := vs) (out := (arrOf st').map (·.2)) hoL
    obtain ⟨L', e', hs'⟩ := ord ((arrOf st').map (·.2)).toList fun v hv => by
      obtain ⟨q, hq, e⟩ := List.mem_map.mp (pm.mem_iff.mp (b1.mem_iff.mp hv))
      exact ⟨q, hq, e.symm⟩
    have pL : L'.Perm L := perm_of L' hs' (by rw [← e']; exact b1.trans pm)
    have pw : L'.Pairwise (fun q r => ltI r.2 q.2 = false) := by
      rw [e'] at b2
      refine List.Pairwise.imp_of_mem (fun {q r} hq hr hle => ?_) (List.pairwise_map.mp b2)
      rw [tup_key (tk q (hs' q hq)), tup_key (tk r (hs' r hr))] at hle
      rw [← lexLt_inl]
      exact hle
    refine wpAny_pure ⟨_, rfl, hQ _ s1.heap.objs.size _ c L' (fun b u e => ?_) g1 o1 hz hc e' pL pw⟩
    have q := k1 b u e
    have hlt := Heap.lt_size q
    show (sortedHeap (s1.heap.push (seqObj "list" vs.toArray 0)) s1.heap.objs.size vs _).get? b = some u
    rw [sortedHeap_old (Nat.ne_of_lt hlt) (by rw [size_push']; exact Nat.lt_succ_of_lt hlt)]
    exact Heap.get?_push_of_some _ q
end
/-- sorted(set(xs)) of tuples of ints -/
def rSortedSet (K : PySem.W.Frag) (P : Program) (w : World) : List V → Hp → VK → Prop := fun vs H Q => ∃ (a : Addr) (L : List (Addr × List Int)), vs = [V.ref a] ∧ H a = some (SetTO P w a L) ∧ (∀ p ∈ L, SqT K H p.1 (p.2.map V.int)) ∧
  (∀ p ∈ L, p.2 ≠ []) ∧
  ∀ (L' : List (Addr × List Int)) (p : Addr), L'.Perm L → (L'.map (·.2)).Nodup → L'.Pairwise (fun q r => ltI r.2 q.2 = false) → H p = none → Q (.ref p) (upd H p (.lst (L'.map fun q => V.ref q.1)))
theorem cr_sortedSet {X : Cx} (hc : X.calm = true) : CallR X (.builtin "sorted") (rSortedSet X.K X.prog X.w) := by
  intro pins s σ H vs us Q I r h
  obtain ⟨a, L, rfl, ha, hk, hB, q⟩ := h
  have R0 : SetT0 X.prog X.w s.heap a L := (I.hok a _ ha).1
  obtain ⟨es, ep, t, R⟩ := R0.full fun p hp => I.isT (hk p hp)
  rw [Vals.ref1 r]
  refine sorted_set R (I.ok.hd hc) hB fun s' p out c L' k g o hp hg hout pm pw => ?_
  have hfew : L'.length < 64 := by rw [pm.length_eq]; exact R.few
  have hlen : (L'.map fun q => V.ref q.1).length ≤ sizeLine := by rw [List.length_map, sizeLine_eq]; omega
  have hn : H p = none := I.hok.fresh hp
  have hv : Vals (L'.map fun q => V.ref q.1) out.toList := by rw [hout]; exact vals_of_refs L'
  have J : Inv X pins σ (upd H p (.lst (L'.map fun q => V.ref q.1))) { s with heap := s'.heap, gens := s'.gens, drawn := s'.drawn, toks := s'.toks } :=
    I.call (ch := []) (Un.laid k hp hn) (I.hok.laid k hp ⟨hlen, out.toList, c, hv, hg⟩) (by rw [g]; exact I.bare) (fun _ z => nomatch z)
  have e : s' = { s with heap := s'.heap, gens := s'.gens, drawn := s'.drawn, toks := s'.toks } := by
    cases s'
    cases s
    cases o
    rfl
  rw [e]
  exact ⟨.ref p, _, J, rfl, q L' p pm ((pm.map (·.2)).nodup_iff.mpr R.nd) pw hn⟩

/-! ### the order of tuples of ints -/
theorem ltI_irrefl : ∀ a : List Int, ltI a a = false
  | [] => rfl
  | a :: as => by simp [ltI, ltI_irrefl as]
theorem ltI_cons (a b : Int) (as bs : List Int) : ltI (a :: as) (b :: bs) = true ↔ a < b ∨ (a = b ∧ ltI as bs = true) := by
  simp only [ltI, Bool.or_eq_true, Bool.and_eq_true, decide_eq_true_eq, Bool.not_eq_true', decide_eq_false_iff_not]
  constructor
  · rintro (h | ⟨h1, h2⟩)
    · exact .inl h
    · by_cases h : a < b
      · exact .inl h
      · exact .inr ⟨by omega, h2⟩
  · rintro (h | ⟨h1, h2⟩)
    · exact .inl h
    · exact .inr ⟨by omega, h2⟩
theorem ltI_trans : ∀ {a b c : List Int}, ltI a b = true → ltI b c = true → ltI a c = true
  | [], [], _, h, _ => by simp [ltI] at h
  | [], _ :: _, [], _, h => by simp [ltI] at h
  | [], _ :: _, _ :: _, _, _ => rfl
  | _ :: _, [], _, h, _ => by simp [ltI] at h
  | _ :: _, _ :: _, [], _, h => by simp [ltI] at h
  | a :: as, b :: bs, c :: cs, h1, h2 => by
    rw [ltI_cons] at *
    rcases h1 with h1 | ⟨h1, h1'⟩
    · rcases h2 with h2 | ⟨h2, h2'⟩
      · exact .inl (by omega)
      · exact .inl (by omega)
    · rcases h2 with h2 | ⟨h2, h2'⟩
      · exact .inl (by omega)
      · exact .inr ⟨by omega, ltI_trans h1' h2'⟩
theorem ltI_total : ∀ {a b : List Int}, ltI a b = false → ltI b a = false → a = b
  | [], [], _, _ => rfl
  | [], _ :: _, h, _ => by simp [ltI] at h
  | _ :: _, [], _, h => by simp [ltI] at h
  | a :: as, b :: bs, h1, h2 => by
    have n1 : ¬ (a < b ∨ (a = b ∧ ltI as bs = true)) := fun z => by rw [← ltI_cons] at z; rw [z] at h1; cases h1
    have n2 : ¬ (b < a ∨ (b = a ∧ ltI bs as = true)) := fun z => by rw [← ltI_cons] at z; rw [z] at h2; cases h2
    have e : a = b := by
      have h1 : ¬ a < b := fun z => n1 (.inl z)
      have h2 : ¬ b < a := fun z => n2 (.inl z)
      omega
    subst e
    have e2 : ltI as bs = false := by
      cases q : ltI as bs with
      | false => rfl
      | true => exact (n1 (.inr ⟨rfl, q⟩)).elim
    have e3 : ltI bs as = false := by
      cases q : ltI bs as with
      | false => rfl
      | true => exact (n2 (.inr ⟨rfl, q⟩)).elim
    rw [ltI_total e2 e3]
def insU (x : List Int) : List (List Int) → List (List Int)
  | [] => [x]
  | y :: ys => if ltI x y = true then x :: y :: ys else if ltI y x = true then y :: insU x ys else y :: ys
/-- ascending, each once -/
def sortU (l : List (List Int)) : List (List Int) := l.foldr insU []
theorem mem_insU {x z : List Int} : ∀ {l : List (List Int)}, z ∈ insU x l ↔ z = x ∨ z ∈ l
  | [] => by simp [insU]
  | y :: ys => by
    unfold insU
    split
    · simp
    · split
      · rw [List.mem_cons, mem_insU (l := ys), List.mem_cons]
        constructor
        · rintro (h | h | h); exact .inr (.inl h); exact .inl h; exact .inr (.inr h)
        · rintro (h | h | h); exact .inr (.inl h); exact .inl h; exact .inr (.inr h)
      · rename_i h1 h2
        have : x = y := ltI_total (by simpa using h1) (by simpa using h2)
        subst this
        simp
theorem mem_sortU {z : List Int} : ∀ {l : List (List Int)}, z ∈ sortU l ↔ z ∈ l
  | [] => by simp [sortU]
  | y :: ys => by
    show z ∈ insU y (sortU ys) ↔ _
    rw [mem_insU, mem_sortU (l := ys), List.mem_cons]
theorem sorted_insU {x : List Int} : ∀ {l : List (List Int)}, l.Pairwise (fun a b => ltI a b = true) → (insU x l).Pairwise (fun a b => ltI a b = true)
  | [], _ => by simp [insU]
  | y :: ys, h => by
    obtain ⟨h1, h2⟩ := List.pairwise_cons.mp h
    unfold insU
    split
    · rename_i hx
      refine List.pairwise_cons.mpr ⟨fun z hz => ?_, h⟩
      rcases List.mem_cons.mp hz with rfl | hz
      · exact hx
      · exact ltI_trans hx (h1 z hz)
    · split
      · rename_i hy
        refine List.pairwise_cons.mpr ⟨fun z hz => ?_, sorted_insU h2⟩
        rcases mem_insU.mp hz with rfl | hz
        · exact hy
        · exact h1 z hz
      · exact h
theorem sorted_sortU (l : List (List Int)) : (sortU l).Pairwise (fun a b => ltI a b = true) := by
  induction l with
  | nil => simp [sortU]
  | cons x xs ih => exact sorted_insU ih
/-- two ascending lists with the same members are one -/
theorem sorted_one : ∀ {l m : List (List Int)}, l.Pairwise (fun a b => ltI a b = true) → m.Pairwise (fun a b => ltI a b = true) → (∀ z, z ∈ l ↔ z ∈ m) → l = m
  | [], [], _, _, _ => rfl
  | [], y :: ys, _, _, h => absurd ((h y).mpr List.mem_cons_self) (by simp)
  | x :: xs, [], _, _, h => absurd ((h x).mp List.mem_cons_self) (by simp)
  | x :: xs, y :: ys, hl, hm, h => by
    obtain ⟨l1, l2⟩ := List.pairwise_cons.mp hl
    obtain ⟨m1, m2⟩ := List.pairwise_cons.mp hm
    have e : x = y := by
      rcases List.mem_cons.mp ((h x).mp List.mem_cons_self) with e | hx
      · exact e
      · rcases List.mem_cons.mp ((h y).mpr List.mem_cons_self) with e | hy
        · exact e.symm
        · have a := l1 y hy
          have b := m1 x hx
          have := ltI_trans a b
          rw [ltI_irrefl] at this; cases this
    subst e
    have t : xs = ys := sorted_one l2 m2 fun z => by
      constructor
      · intro hz
        rcases List.mem_cons.mp ((h z).mp (List.mem_cons_of_mem _ hz)) with e | hz'
        · have := l1 z hz; rw [e, ltI_irrefl] at this; cases this
        · exact hz'
      · intro hz
        rcases List.mem_cons.mp ((h z).mpr (List.mem_cons_of_mem _ hz)) with e | hz'
        · have := m1 z hz; rw [e, ltI_irrefl] at this; cases this
        · exact hz'
    rw [t]
theorem sortU_of {l m : List (List Int)} (nd : m.Nodup) (pw : m.Pairwise (fun a b => ltI b a = false)) (h : ∀ z, z ∈ m ↔ z ∈ l) : m = sortU l := by
  refine sorted_one ?_ (sorted_sortU l) fun z => by rw [mem_sortU, h]
  have := List.Pairwise.and nd pw
  refine this.imp fun {a b} ⟨ne, h⟩ => ?_
  cases q : ltI a b with
  | true => rfl
  | false => exact absurd (ltI_total q h) ne

/-! ### as data -/
/-- a tuple of dInts -/
abbrev dT (ns : List Int) : D := .tup (ns.map .int)
def dInts : List D → Option (List Int)
  | [] => some []
  | .int i :: ds => match dInts ds with
    | some ns => some (i :: ns)
    | none => none
  | _ :: _ => none
def intTups : List D → Option (List (List Int))
  | [] => some []
  | .tup ds :: r => match dInts ds, intTups r with
    | some ns, some nss => some (ns :: nss)
    | _, _ => none
  | _ :: _ => none
theorem dInts_map (ns : List Int) : dInts (ns.map .int) = some ns := by
  induction ns with
  | nil => rfl
  | cons n ns ih => simp [dInts, ih]
theorem intTups_map (nss : List (List Int)) : intTups (nss.map dT) = some nss := by
  induction nss with
  | nil => rfl
  | cons n ns ih => simp [intTups, ih, dInts_map]
theorem dInts_eq : ∀ {ds : List D} {ns : List Int}, dInts ds = some ns → ds = ns.map .int
  | [], ns, h => by simp [dInts] at h; subst h; rfl
  | .int i :: ds, ns, h => by
    simp only [dInts] at h
    split at h
    · rename_i ms e
      cases h
      rw [List.map_cons, dInts_eq e]
    · cases h
  | .non :: _, _, h => by simp [dInts] at h
  | .bl _ :: _, _, h => by simp [dInts] at h
  | .str _ :: _, _, h => by simp [dInts] at h
  | .ref _ :: _, _, h => by simp [dInts] at h
  | .ty _ :: _, _, h => by simp [dInts] at h
  | .tup _ :: _, _, h => by simp [dInts] at h
  | .lst _ :: _, _, h => by simp [dInts] at h
  | .kls _ :: _, _, h => by simp [dInts] at h
  | .dic _ _ _ :: _, _, h => by simp [dInts] at h
  | .obj _ _ _ :: _, _, h => by simp [dInts] at h
  | .exv _ _ _ _ _ :: _, _, h => by simp [dInts] at h
theorem intTups_eq : ∀ {ds : List D} {nss : List (List Int)}, intTups ds = some nss → ds = nss.map dT
  | [], ns, h => by simp [intTups] at h; subst h; rfl
  | .tup xs :: ds, ns, h => by
    simp only [intTups] at h
    split at h
    · rename_i a b e1 e2
      cases h
      rw [List.map_cons, intTups_eq e2, dInts_eq e1]
    · cases h
  | .non :: _, _, h => by simp [intTups] at h
  | .bl _ :: _, _, h => by simp [intTups] at h
  | .str _ :: _, _, h => by simp [intTups] at h
  | .ref _ :: _, _, h => by simp [intTups] at h
  | .ty _ :: _, _, h => by simp [intTups] at h
  | .int _ :: _, _, h => by simp [intTups] at h
  | .lst _ :: _, _, h => by simp [intTups] at h
  | .kls _ :: _, _, h => by simp [intTups] at h
  | .dic _ _ _ :: _, _, h => by simp [intTups] at h
  | .obj _ _ _ :: _, _, h => by simp [intTups] at h
  | .exv _ _ _ _ _ :: _, _, h => by simp [intTups] at h
section
variable {K : PySem.W.Frag} {Z H : Hp}
theorem reps_ints : ∀ {ns : List Int} {vs : List V}, Reps K Z H (ns.map .int) vs → vs = ns.map V.int
  | [], _, r => by cases r; rfl
  | n :: ns, _, r => by
    cases r with
    | cons a b =>
      cases a
      rw [reps_ints b]; rfl
theorem reps_of_ints : ∀ (ns : List Int), Reps K Z H (ns.map .int) (ns.map V.int)
  | [] => .nil
  | n :: ns => .cons .int (reps_of_ints ns)
/-- the tuples' addresses -/
theorem reps_tups : ∀ {nss : List (List Int)} {vs : List V}, Reps K Z H (nss.map dT) vs → ∃ ks : List (Addr × List Int), vs = ks.map (fun p => V.ref p.1) ∧ ks.map (·.2) = nss ∧ ∀ p ∈ ks, H p.1 = some (.tup (p.2.map V.int))
  | [], _, r => by cases r; exact ⟨[], rfl, rfl, fun _ h => nomatch h⟩
  | n :: ns, _, r => by
    cases r with
    | cons a b =>
      cases a with
      | @tup x vs _ hq hr =>
        obtain ⟨ks, h1, h2, h3⟩ := reps_tups b
        have e := reps_ints hr
        subst e
        refine ⟨(x, n) :: ks, by rw [h1]; rfl, by rw [List.map_cons, h2], fun p hp => ?_⟩
        rcases List.mem_cons.mp hp with rfl | hp
        · exact hq
        · exact h3 p hp
theorem reps_refs : ∀ {L : List (Addr × List Int)}, (∀ p ∈ L, H p.1 = some (.tup (p.2.map V.int))) → Reps K Z H ((L.map (·.2)).map dT) (L.map fun p => V.ref p.1)
  | [], _ => .nil
  | p :: L, h => .cons (.tup (h p List.mem_cons_self) (reps_of_ints _)) (reps_refs fun q hq => h q (List.mem_cons_of_mem _ hq))
end
/-- sorted(set(x)) -/
def oSortSet (env : En) : List Opd → Option Opd
  | [a] => match a.tt env with
    | some u => match u.elsL with
      | some ds => match intTups ds with
        | some nss => if nss.length < 64 ∧ (∀ ns ∈ nss, ns ≠ []) then some (.t (.lst ((sortU nss).map fun ns => .z (dT ns)))) else none
        | none => none
      | none => none
    | none => none
  | _ => none
theorem link_sortSet {K : PySem.W.Frag} {P : Program} {w : World} : Link K oSortSet (fun xs H Q => rSetOfT K P w xs H fun y H2 => rSortedSet K P w [y] H2 Q) := by
  intro σ Z H F G env os xs o' Q ok er or ho hq
  unfold oSortSet at ho
  split at ho
  · rename_i a
    obtain ⟨x, A, rfl, ra⟩ := or.one
    split at ho
    · rename_i u hu
      split at ho
      · rename_i ds hd
        split at ho
        · rename_i nss hn
          split at ho
          · rename_i hc
            cases ho
            obtain ⟨b, ws, rfl, hb, rw'⟩ := (ra.seen er hu).elsL ok.sub hd
            rw [intTups_eq hn] at rw'
            obtain ⟨ks, rfl, e2, h3⟩ := reps_tups rw'
            refine ⟨b, ks, rfl, SqL.of hb, fun p hp => SqT.of (h3 p hp), by rw [← List.length_map (f := Prod.snd), e2]; exact hc.1, fun s L hs hL1 hL2 => ?_⟩
            have g1 := grow_upd (o := SetTO P w s L) hs
            refine ⟨s, L, rfl, upd_same, fun p hp => SqT.of (g1.tt _ _ (h3 p (hL1 p hp))), fun p hp => hc.2 _ (by rw [← e2]; exact List.mem_map.mpr ⟨p, hL1 p hp, rfl⟩), fun L' q pm nd pw hq' => ?_⟩
            have g2 := grow_upd (o := .lst (L'.map fun q => V.ref q.1)) hq'
            have eL : L'.map (·.2) = sortU nss := by
              refine sortU_of nd (List.pairwise_map.mpr pw) fun z => ?_
              rw [(pm.map (·.2)).mem_iff, ← e2]
              constructor
              · intro hz
                obtain ⟨p, hp, rfl⟩ := List.mem_map.mp hz
                exact List.mem_map.mpr ⟨p, hL1 p hp, rfl⟩
              · intro hz
                obtain ⟨p, hp, rfl⟩ := List.mem_map.mp hz
                exact hL2 p hp
            have gg : Grow H (upd (upd H s (SetTO P w s L)) q (.lst (L'.map fun q => V.ref q.1))) := fun a u h => g2 a u (g1 a u h)
            have hqn : H q = none := by
              cases e : H q with
              | none => rfl
              | some o => rw [g1 q o e] at hq'; cases hq'
            refine hq (.ref q) _ [q] gg (fresh1 hqn) (by simp) ?_
            have rr := new_lst (K := K) (Z := Z) (σ := σ) hq' (reps_refs (K := K) (Z := Z) (H := upd H s (SetTO P w s L)) (L := L') fun p hp => g1.tt _ _ (h3 p (hL1 p (pm.mem_iff.mp hp))))
            rw [eL, List.map_map] at rr
            exact rr
          · cases ho
        · cases ho
      · cases ho
    · cases ho
  · cases ho
theorem pq_sortSet {X : Cx} {W : WX} {e : Expr} {p1 p2 p3 p4 : Pos} {k : Nat} {p : Bool} {f : EM Opd} (hc : X.calm = true) (hr : Room k X.A) (hg1 : Gl X "sorted") (hm1 : X.mg "sorted" = none) (hg2 : Gl X "set") (hm2 : X.mg "set" = none) (he : PQ X W p e f)
    (hs1 : starEach [.Call (.Name "set" p2) [e] [] p3] X.env = (false, eval (.Call (.Name "set" p2) [e] [] p3) X.env) :: starEach [] X.env := by rfl) (hs2 : starEach [e] X.env = (false, eval e X.env) :: starEach [] X.env := by rfl)
    (hp1 : (backTo p4 (starEach [] X.env)).any (·.1) = false := by rfl) (hp2 : (backTo p3 (starEach [] X.env)).any (·.1) = false := by rfl) :
    PQ X W p (.Call (.Name "sorted" p1) [.Call (.Name "set" p2) [e] [] p3] [] p4) (sO oSortSet (sCons true f sNil)) :=
  (pe_callB (cr_sortedSet hc) hg1 hm1 (by decide +kernel) (pa_cons (pe_callTy (cr_setOfT hc hr.units) hg2 hm2 (by decide +kernel) (pa_cons he pa_nil hs2) (by decide) (by decide) hs2 hp2) pa_nil hs1) (by decide) (by decide) hs1 hp1).imp fun _ _ _ h => one_ok (o_ok (link_sortSet (P := X.prog) (w := X.w)) h)
end DL

/-! DL13: list(..), tuple(..), isinstance. -/
namespace DL
open PySem PySem.Spec PyProof.Rows L2

@[simp] def oListOf (env : En) : List Opd → Option Opd
  | [a] => match a.tt env with
    | some u => match u.els with
      | some ds => some (.t (.lst (ds.map .z)))
      | none => none
    | none => none
  | _ => none
@[simp] def oTupOf (env : En) : List Opd → Option Opd
  | [a] => match a.tt env with
    | some u => match u.els with
      | some ds => some (.t (.z (.tup ds)))
      | none => none
    | none => none
  | _ => none
section
variable {K : PySem.W.Frag} {Z H : Hp}
theorem Seen.els {u : T} {v : V} {ds : List D} (r : Seen K Z H u v) (sub : ∀ a o, Z a = some o → H a = some o) (e : u.els = some ds) : ∃ a vs, v = .ref a ∧ (SqL K H a vs ∨ H a = some (.tup vs)) ∧ Reps K Z H ds vs := by
  unfold T.els at e
  split at e
  · rename_i ds' e'
    cases e
    obtain ⟨a, vs, h1, h2, h3⟩ := r.elsL sub e'
    exact ⟨a, vs, h1, .inl (SqL.of h2), h3⟩
  · split at e
    · rename_i ds' e'
      cases e
      obtain ⟨a, vs, h1, h2, h3⟩ := r.elsK sub e'
      exact ⟨a, vs, h1, .inl h2, h3⟩
    · obtain ⟨a, vs, h1, h2, h3⟩ := r.elsT e
      exact ⟨a, vs, h1, .inr h2, h3⟩
end
theorem link_listOf {K : PySem.W.Frag} : Link K oListOf (fun xs H Q => ∃ p ys, xs = [.ref p] ∧ (SqL K H p ys ∨ SqT K H p ys) ∧ ∀ l, H l = none → Q (.ref l) (upd H l (.lst ys))) := by
  intro σ Z H F G env os xs o' Q ok er or ho hq
  unfold oListOf at ho
  split at ho
  · obtain ⟨x, A, rfl, ra⟩ := or.one
    split at ho
    · rename_i u hu
      split at ho
      · rename_i ds hd
        cases ho
        obtain ⟨a, vs, rfl, h2, h3⟩ := (ra.seen er hu).els ok.sub hd
        exact ⟨a, vs, rfl, h2.imp id SqT.of, fun l hn => hq _ _ [l] (grow_upd hn) (fresh1 hn) (by simp) (new_lst hn h3)⟩
      · cases ho
    · cases ho
  · cases ho
theorem link_tupOf {K : PySem.W.Frag} : Link K oTupOf (fun xs H Q => ∃ p ys, xs = [.ref p] ∧ ((SqL K H p ys ∧ ∀ l, H l = none → Q (.ref l) (upd H l (.tup ys))) ∨ (SqT K H p ys ∧ Q (.ref p) H))) := by
  intro σ Z H F G env os xs o' Q ok er or ho hq
  unfold oTupOf at ho
  split at ho
  · obtain ⟨x, A, rfl, ra⟩ := or.one
    split at ho
    · rename_i u hu
      split at ho
      · rename_i ds hd
        cases ho
        obtain ⟨a, vs, rfl, h2, h3⟩ := (ra.seen er hu).els ok.sub hd
        rcases h2 with h2 | h2
        · exact ⟨a, vs, rfl, .inl ⟨h2, fun l hn => hq _ _ [] (grow_upd hn) (fun _ z => nomatch z) (by simp) (new_tup hn h3)⟩⟩
        · exact ⟨a, vs, rfl, .inr ⟨SqT.of h2, hq _ _ [] (fun _ _ z => z) (fun _ z => nomatch z) (by simp) (.t (.z (.tup h2 h3)))⟩⟩
      · cases ho
    · cases ho
  · cases ho
@[simp] def tyName : D → Option String
  | .non => some "NoneType"
  | .bl _ => some "bool"
  | .int _ => some "int"
  | .str _ => some "str"
  | .tup _ => some "tuple"
  | .lst _ => some "list"
  | .dic _ _ _ => some "dict"
  | _ => none
/-- the types asked here -/
@[simp] def isA : String → String → Option Bool
  | "int", "int" => some true
  | "bool", "int" => some true
  | "bool", "bool" => some true
  | "str", "str" => some true
  | "tuple", "tuple" => some true
  | "list", "list" => some true
  | "dict", "dict" => some true
  | "int", "bool" => some false
  | "int", "str" => some false
  | "int", "tuple" => some false
  | "int", "list" => some false
  | "int", "dict" => some false
  | "bool", "str" => some false
  | "bool", "tuple" => some false
  | "bool", "list" => some false
  | "bool", "dict" => some false
  | "str", "int" => some false
  | "str", "bool" => some false
  | "str", "tuple" => some false
  | "str", "list" => some false
  | "str", "dict" => some false
  | "tuple", "int" => some false
  | "tuple", "bool" => some false
  | "tuple", "str" => some false
  | "tuple", "list" => some false
  | "tuple", "dict" => some false
  | "list", "int" => some false
  | "list", "bool" => some false
  | "list", "str" => some false
  | "list", "tuple" => some false
  | "list", "dict" => some false
  | "NoneType", "int" => some false
  | "NoneType", "bool" => some false
  | "NoneType", "str" => some false
  | "NoneType", "tuple" => some false
  | "NoneType", "list" => some false
  | "NoneType", "dict" => some false
  | "dict", "int" => some false
  | "dict", "bool" => some false
  | "dict", "str" => some false
  | "dict", "tuple" => some false
  | "dict", "list" => some false
  | _, _ => none
theorem isA_kit {K : PySem.W.Frag} {a b : String} {r : Bool} (h : isA a b = some r) : PySem.W.kitOne K (.type a) (.type b) = some r := by
  refine kit_ty ?_
  unfold isA at h
  split at h <;> first | (cases h; decide +kernel) | cases h
theorem Rep.tyx {K : PySem.W.Frag} {H : Hp} {d : D} {v : V} {n : String} (r : Rep K H H d v) (e : tyName d = some n) : TyX K H v (.type n) := by
  cases r <;> simp only [tyName] at e <;> first | (cases e; done) | skip
  · cases e; exact .base .non
  · cases e; exact .base (.bl _)
  · cases e; exact .base (.int _)
  · cases e; exact .base (.str _)
  · rename_i h _
    cases e
    exact .base (.tup h)
  · rename_i h _
    cases e
    exact .base (.lst h)
  · rename_i h n _
    cases e
    rcases n.or with ⟨kvs, rfl, _⟩ | ⟨kvs, rfl, _⟩
    · exact .base (.dK h)
    · exact .base (.dT h)
@[simp] def gIsi (c : String) : List D → Option D
  | [d] => match tyName d with
    | some n => match isA n c with
      | some b => some (.bl b)
      | none => none
    | none => none
  | _ => none
theorem link_isi {K : PySem.W.Frag} {c : String} : Link K (oS (gIsi c)) (fun xs H Q => rIsi K (xs ++ [.ty c]) H Q) := by
  refine link_S fun H xs ds d Q r e q => ?_
  unfold gIsi at e
  split at e
  · obtain ⟨x, rfl, r1⟩ := r.one
    split at e
    · rename_i n hn
      split at e
      · rename_i b hb
        cases e
        exact ⟨x, .ty c, .type n, .type c, b, rfl, .ty c, r1.tyx hn, isA_kit hb, q⟩
      · cases e
    · cases e
  · cases e
section
variable {X : Cx} {W : WX} {e : Expr} {es : List Expr} {p1 p2 pos : Pos} {p pa pb : Bool} {x c : Str} {n : String} {f fa fb : EM Opd}
theorem starCons {X : Cx} (e : Expr) (es : List Expr) : True := trivial
theorem pq_list (hg : Gl X "list") (hm : X.mg "list" = none) (he : PQ X W p e f) (hs : starEach [e] X.env = (false, eval e X.env) :: starEach [] X.env := by rfl) (hpl : (backTo pos (starEach [] X.env)).any (·.1) = false := by rfl) :
    PQ X W p (.Call (.Name "list" p1) [e] [] pos) (sO oListOf (sCons true f sNil)) :=
  (pe_callTy call_list_of hg hm (by decide +kernel) (pa_cons he pa_nil hs) (by decide) (by decide) hs hpl).imp fun _ _ _ h => one_ok (o_ok link_listOf h)
theorem pq_tuple (hg : Gl X "tuple") (hm : X.mg "tuple" = none) (he : PQ X W p e f) (hs : starEach [e] X.env = (false, eval e X.env) :: starEach [] X.env := by rfl) (hpl : (backTo pos (starEach [] X.env)).any (·.1) = false := by rfl) :
    PQ X W p (.Call (.Name "tuple" p1) [e] [] pos) (sO oTupOf (sCons true f sNil)) :=
  (pe_callTy call_tuple_of hg hm (by decide +kernel) (pa_cons he pa_nil hs) (by decide) (by decide) hs hpl).imp fun _ _ _ h => one_ok (o_ok link_tupOf h)
theorem pq_int1 (hg : Gl X "int") (hm : X.mg "int" = none) (he : PQ X W p e f) (hs : starEach [e] X.env = (false, eval e X.env) :: starEach [] X.env := by rfl) (hpl : (backTo pos (starEach [] X.env)).any (·.1) = false := by rfl) :
    PQ X W p (.Call (.Name "int" p1) [e] [] pos) (sO (oS gInt) (sCons true f sNil)) :=
  (pe_callTy call_int1 hg hm (by decide +kernel) (pa_cons he pa_nil hs) (by decide) (by decide) hs hpl).imp fun _ _ _ h => one_ok (o_ok link_int h)
theorem pq_len1 (hg : Gl X "len") (hm : X.mg "len" = none) (he : PQ X W p e f) (hs : starEach [e] X.env = (false, eval e X.env) :: starEach [] X.env := by rfl) (hpl : (backTo pos (starEach [] X.env)).any (·.1) = false := by rfl) :
    PQ X W p (.Call (.Name "len" p1) [e] [] pos) (sO (oS gLen) (sCons true f sNil)) :=
  (pe_callB call_len hg hm PySem.boot_len (pa_cons he pa_nil hs) (by decide) (by decide) hs hpl).imp fun _ _ _ h => one_ok (o_ok link_len h)
theorem pq_max2 {e2 : Expr} (hc : X.calm = true) (hg : Gl X "max") (hm : X.mg "max" = none) (ha : PQ X W pa e fa) (hb : PQ X W pb e2 fb) (hs : starEach [e, e2] X.env = (false, eval e X.env) :: starEach [e2] X.env := by rfl) (hs2 : starEach [e2] X.env = (false, eval e2 X.env) :: starEach [] X.env := by rfl) (hpl : (backTo pos (starEach [e2] X.env)).any (·.1) = false := by rfl) :
    PQ X W (pa && pb) (.Call (.Name "max" p1) [e, e2] [] pos) (sO oMax2 (sCons pb fa (sCons true fb sNil))) :=
  (pe_callB (call_max2 hc) hg hm (by decide +kernel) (pa_cons ha (pa_cons hb pa_nil hs2) hs) (by decide) (by decide) hs hpl).imp fun _ _ _ h => two_ok (o_ok (link_2I fun _ _ => rfl) h)
theorem pq_min2 {e2 : Expr} (hc : X.calm = true) (hg : Gl X "min") (hm : X.mg "min" = none) (ha : PQ X W pa e fa) (hb : PQ X W pb e2 fb) (hs : starEach [e, e2] X.env = (false, eval e X.env) :: starEach [e2] X.env := by rfl) (hs2 : starEach [e2] X.env = (false, eval e2 X.env) :: starEach [] X.env := by rfl) (hpl : (backTo pos (starEach [e2] X.env)).any (·.1) = false := by rfl) :
    PQ X W (pa && pb) (.Call (.Name "min" p1) [e, e2] [] pos) (sO oMin2 (sCons pb fa (sCons true fb sNil))) :=
  (pe_callB (call_min2 hc) hg hm (by decide +kernel) (pa_cons ha (pa_cons hb pa_nil hs2) hs) (by decide) (by decide) hs hpl).imp fun _ _ _ h => two_ok (o_ok (link_2I fun _ _ => rfl) h)
theorem pq_isi {pc : Pos} (hg : Gl X "isinstance") (hm : X.mg "isinstance" = none) (hgc : Gl X c) (hmc : X.mg c = none) (hb : bootBuiltins c = some (.type n)) (he : PQ X W p e f) (hn : c ≠ "__name__" := by decide) (hd : (c == ("__debug__" : Str)) = false := by decide)
    (hs : starEach [e, .Name c pc] X.env = (false, eval e X.env) :: starEach [.Name c pc] X.env := by rfl) (hs2 : starEach [.Name c pc] X.env = (false, eval (.Name c pc) X.env) :: starEach [] X.env := by rfl) (hpl : (backTo pos (starEach [.Name c pc] X.env)).any (·.1) = false := by rfl) :
    PQ X W p (.Call (.Name "isinstance" p1) [e, .Name c pc] [] pos) (sO (oS (gIsi n)) (sCons true f sNil)) :=
  (pe_callB call_isi hg hm (by decide +kernel) (pa_cons he (pa_cons (pe_bltn (v := .ty n) hgc hmc hb rfl hn hd) pa_nil hs2) hs) (by decide) (by decide) hs hpl).imp fun _ _ _ h => one_ok (o_ok link_isi h)
end
end DL

/-! DL14: defs of the text. -/
namespace DL
open PySem PySem.Spec PyProof.Rows L2

/-- a def of the text -/
structure DefAt (K : PySem.W.Frag) (mg : Str → Option Value) (x : Str) (st : Stmt) (ps : List Str) (f : Addr) (fd : FuncData) : Prop where
  fn : FunD K x x (defArgs st) (defBody st) (defScope st) [] [] f fd
  mg : mg x = some (.ref f)
  b : Binds K fd ps []
theorem def_okD {P : Program} {w : World} {K : PySem.W.Frag} {mg : Str → Option Value} {base : Heap} {x : Str} {st : Stmt} {f : Addr} {fd : FuncData} {N ps : List Str} {k : Nat} {io : List Bool} {g : SM} (Fn : DefAt K mg x st ps f fd) (S : FnScope N ps (defScope st)) (hio : io.length ≤ ps.length) (hN : ps.length ≤ N.length)
    (body : ∀ (cdv : Value) (A : Around) (outer : List PySem.Env) (s : Shared) (H : Hp) (E : XK), Room k (A.deeper (envOfC x (defScope st) s.heap.objs.size f cdv)) →
      PBQ (cxOf (L2.CX P w) P w K mg base N x (defScope st) f cdv A outer s H E) (fun cls d _ H => E cls d H) (maskIx 0 io) (defBody st) g) :
    FnOk P w K mg base (L2.CX P w) (k + 1) f fd ps (spF K ps.length io (fnOf ps.length N.length io g)) := by
  refine Fn.fn.ok S (fun vs H Q E h => h.1) (fun cdv A outer s H vs Q E hr h => ?_)
  refine ⟨_, body cdv A outer s H E hr, ?_⟩
  obtain ⟨hl, Z, ts, F, ok, r, out, ho, post⟩ := h
  unfold fnOf at ho
  have hts : ts.length = ps.length := r.length.trans hl
  rw [if_pos hts] at ho
  have er := envR_start r (N.length - ps.length)
  have eσ : L2.start N vs = vs.map some ++ List.replicate (N.length - ps.length) none := by unfold L2.start; rw [hl]
  rw [eσ]
  have fin_ok : ∀ {e : En} {fin : List T} {σ' : L2.St} {Z' H' : Hp} {F' : List Addr}, EnvR K Z' H' e σ' F' → fins io e = some fin → Pin (maskIx 0 io) (vs.map some ++ List.replicate (N.length - ps.length) none) σ' →
      ∃ F2, RepTs K Z' H' fin (pick io vs) F2 ∧ F2.Sublist F' := fun {e fin σ' Z' H' F'} er' hf pn => by
    obtain ⟨ws, F2, _, h1, h2, h3⟩ := fins_ok er' hf
    have h4 := pick_pin (io := io) (k := 0) (σ := vs.map some ++ List.replicate (N.length - ps.length) none) (σ' := σ') (A := []) (A' := []) rfl rfl (fun i hi => by simpa using pn.2 i hi) (by simp [hl]; omega) (by rw [← er'.length]; exact fins_len hf)
    rw [h3, pick_some (by rw [hl]; exact hio)] at h4
    have h5 : ws = pick io vs := by
      have := congrArg (List.filterMap id) h4
      simpa using this
    subst h5
    exact ⟨F2, h1, h2⟩
  refine ⟨Z, _, F, ok, er, ?_⟩
  split at ho
  · rename_i e hg
    split at ho
    · rename_i fin hf
      cases ho
      refine ⟨_, hg, fun σ' H' Z' F' x1 ok1 er1 pn => ?_⟩
      obtain ⟨F2, r2, sl⟩ := fin_ok er1 hf pn
      exact post .non H' Z' F2 [] (by simpa using x1.sub fun a ha => sl.subset ha) (by simpa using ok1.subF sl) r2 (.z .non)
    · cases ho
  · rename_i t e hg
    split at ho
    · rename_i fin hf
      cases ho
      refine ⟨_, hg, fun v σ' H' Z' F' G x1 ok1 er1 rt pn => ?_⟩
      obtain ⟨F2, r2, sl⟩ := fin_ok er1 hf pn
      have sl' : (F2 ++ G).Sublist (F' ++ G) := sl.append_right G
      exact post v H' Z' F2 G (x1.sub fun a ha => sl'.subset ha) (ok1.subF sl') r2 rt
    · cases ho
  · rename_i y e hg
    split at ho
    · rename_i fin hf
      cases ho
      refine ⟨_, hg, fun d σ' H' Z' F' x1 ok1 er1 xr pn => ?_⟩
      obtain ⟨F2, r2, sl⟩ := fin_ok er1 hf pn
      exact post d H' Z' F2 (x1.sub fun a ha => sl.subset ha) (ok1.subF sl) r2 xr
    · cases ho
  · cases ho
/-- the script, as data -/
theorem script_rep {K : PySem.W.Frag} {H : Hp} {a : Addr} {ns : List Int} (h : SqL K H a (ns.map V.int)) : Rep K H H (.kls (ns.map .int)) (.ref a) := .kls h (reps_of_ints ns)
/-- the law's promise: a list of ints is handed in, True comes out -/
def spLaw (K : PySem.W.Frag) : Sp := fun vs H Q _ => ∃ (a : Addr) (ns : List Int), vs = [.ref a] ∧ SqL K H a (ns.map V.int) ∧ ns.length ≤ 63 ∧ ∀ H', Q (.bl true) H'
theorem law_sp {K : PySem.W.Frag} {F : FSem} (h : ∀ ns : List Int, ns.length ≤ 63 → F [.z (.kls (ns.map .int))] = some (.rt (.z (.bl true)) [])) : ∀ vs H Q E, spLaw K vs H Q E → spF K 1 [] F vs H Q E := by
  rintro vs H Q E ⟨a, ns, rfl, hS, hl, q⟩
  refine ⟨rfl, H, [.z (.kls (ns.map .int))], [], ⟨fun _ _ h => h, List.nodup_nil, (fun _ h => nomatch h), (fun _ h => nomatch h)⟩, .cons (F := []) (G := []) (.z (script_rep hS)) .nil, _, h ns hl, ?_⟩
  intro v H' Z' F' G _ _ _ rt
  cases rt with
  | z r =>
    cases r
    exact q H'
end DL

/-! DL15: the law's end. -/
namespace DL
open PySem PySem.Spec PyProof.Rows L2
theorem cx_e0 {P : Program} {w : World} {outer : List PySem.Env} {H : Hp} {s s' : Shared} {u : Value} (z : L2.CX P w outer H s L2.E0 u s') : False := by
  obtain ⟨_, _, _, _, _, _, _, _, _, _, _, _, z⟩ := z
  exact z
theorem fn_drop {P : Program} {w : World} {K : PySem.W.Frag} {mg : Str → Option Value} {base : Heap} {k : Nat} {f : Addr} {fd : FuncData} {ps : List Str} {sp sp' : Sp} (F : FnOk P w K mg base (L2.CX P w) k f fd ps sp)
    (h : ∀ vs H Q E, sp' vs H Q E → sp vs H Q E0) : FnOk P w K mg base L2.CX0 k f fd ps sp' :=
  ⟨fun vs H Q E q => F.len vs H Q E0 (h _ _ _ _ q), fun A outer s H args us vs Q E hr he hb hv hs => codeAny_mono (F.run A outer s H args us vs Q E0 hr he hb hv (h _ _ _ _ hs)) fun r s' q => by
    unfold L2.CR at q ⊢
    split at q
    · exact q
    · exact q.elim
    · exact (cx_e0 q).elim⟩
/-- the law's def keeps the law's promise -/
theorem law_fn {P : Program} {w : World} {K : PySem.W.Frag} {mg : Str → Option Value} {base : Heap} {k : Nat} {f : Addr} {fd : FuncData} {F : FSem} (h : FnOk P w K mg base (L2.CX P w) k f fd ["script"] (spF K 1 [] F))
    (top : ∀ ns : List Int, ns.length ≤ 63 → F [.z (.kls (ns.map .int))] = some (.rt (.z (.bl true)) [])) : FnOk P w K mg base L2.CX0 k f fd ["script"] (spLaw K) :=
  fn_drop h fun vs H Q E q => law_sp top vs H Q E0 (by
    obtain ⟨a, ns, e, hS, hl, q⟩ := q
    exact ⟨a, ns, e, hS, hl, q⟩)
end DL

/-! DL16: evaluation. -/
namespace DL
open PySem PySem.Spec PyProof.Rows L2

abbrev iT (i : Int) : T := .z (.int i)
abbrev bT (b : Bool) : T := .z (.bl b)
section
variable {g h : SM} {f fa fb fi : EM Opd} {fr : EM (List Opd)} {fc ta tb : EM Bool} {o : En → List Opd → Option Opd} {env : En} {i n m : Nat} {p2 : Bool} {s : GM} {r : List T → En → Option En} {io : List Bool} {Fn : FSem} {own : List Nat} {fe : EM Opd} {gr : List D → Option (Int × Nat)}
@[simp] theorem sNext_ap : sNext env = some (.nx env) := rfl
@[simp] theorem sSeq_ap : sSeq g h env = (match g env with
  | some (.nx e) => h e
  | r => r) := rfl
@[simp] theorem sBreak_ap : sBreak env = some (.bk env) := rfl
@[simp] theorem sCont_ap : sCont env = some (.ct env) := rfl
@[simp] theorem sSet_ap : sSet i f env = (match f env with
  | none => none
  | some (.ex x e) => some (.ex x e)
  | some (.ok o e) => match o.take e with
    | none => none
    | some (t, e') => if i < e'.length then some (.nx (e'.set i (some t))) else none) := rfl
@[simp] theorem sRet_ap : sRet f env = (match f env with
  | none => none
  | some (.ex x e) => some (.ex x e)
  | some (.ok o e) => match o.mv e with
    | none => none
    | some (t, e') => some (.rt t e')) := rfl
@[simp] theorem sRetN_ap : sRetN env = some (.rt (.z .non) env) := rfl
@[simp] theorem sDrop_ap : sDrop f env = (match f env with
  | none => none
  | some (.ex x e) => some (.ex x e)
  | some (.ok _ e) => some (.nx e)) := rfl
@[simp] theorem sIfS_ap : sIfS fc g h env = (match fc env with
  | none => none
  | some (.ex x e) => some (.ex x e)
  | some (.ok b e) => if b = true then g e else h e) := rfl
@[simp] theorem sVar_ap : sVar i env = (match env[i]? with
  | some (some (.z d)) => some (.ok (.t (.z d)) env)
  | some (some _) => some (.ok (.s i) env)
  | _ => none) := rfl
@[simp] theorem sC_ap {d : D} : sC d env = some (.ok (.t (.z d)) env) := rfl
@[simp] theorem sNil_ap : sNil env = some (.ok [] env) := rfl
@[simp] theorem sCons_ap : sCons p2 fa fr env = (match fa env with
  | none => none
  | some (.ex x env1) => some (.ex x env1)
  | some (.ok o env1) => match fr env1 with
    | none => none
    | some (.ex x env2) => some (.ex x env2)
    | some (.ok os env2) => if (p2 || o.stays) = true then some (.ok (o :: os) env2) else none) := rfl
@[simp] theorem sO_ap : sO o fr env = (match fr env with
  | none => none
  | some (.ex x e) => some (.ex x e)
  | some (.ok os e) => match o e os with
    | none => none
    | some x => some (.ok x e)) := rfl
@[simp] theorem sTb_ap : sTb f env = (match f env with
  | none => none
  | some (.ex x e) => some (.ex x e)
  | some (.ok o e) => match o.rd e with
    | some (.bl b) => some (.ok b e)
    | _ => none) := by
  unfold sTb
  cases f env with
  | none => rfl
  | some r => cases r with
    | ex x e => rfl
    | ok o e => rfl
@[simp] theorem sTr_ap : sTr f env = (match f env with
  | none => none
  | some (.ex x e) => some (.ex x e)
  | some (.ok o e) => match o.rd e with
    | none => none
    | some d => match gTru d with
      | none => none
      | some b => some (.ok b e)) := rfl
@[simp] theorem sAnd_ap {fa fb : EM Bool} : sAnd fa fb env = (match fa env with
  | some (.ok true e) => fb e
  | r => r) := rfl
@[simp] theorem sOr_ap {fa fb : EM Bool} : sOr fa fb env = (match fa env with
  | some (.ok false e) => fb e
  | r => r) := rfl
@[simp] theorem sNot_ap : sNot fc env = (match fc env with
  | some (.ok b e) => some (.ok (!b) e)
  | r => r) := rfl
@[simp] theorem sAndV_ap : sAndV fa fb env = (match fa env with
  | none => none
  | some (.ex x e) => some (.ex x e)
  | some (.ok o e) => match o.rd e with
    | some (.bl true) => fb e
    | some (.bl false) => some (.ok (.t (.z (.bl false))) e)
    | _ => none) := rfl
@[simp] theorem sOrV_ap : sOrV fa fb env = (match fa env with
  | none => none
  | some (.ex x e) => some (.ex x e)
  | some (.ok o e) => match o.rd e with
    | some (.bl false) => fb e
    | some (.bl true) => some (.ok (.t (.z (.bl true))) e)
    | _ => none) := rfl
@[simp] theorem sIf_ap : sIf fc fa fb env = (match fc env with
  | none => none
  | some (.ex x e) => some (.ex x e)
  | some (.ok b e) => if b = true then fa e else fb e) := rfl
@[simp] theorem sTake_ap {h : List T → Option T} : sTake h fr env = (match fr env with
  | none => none
  | some (.ex x e) => some (.ex x e)
  | some (.ok os e) => match takes os e with
    | none => none
    | some (ts, e') => match h ts with
      | none => none
      | some t => some (.ok (.t t) e')) := rfl
@[simp] theorem sCallL_ap : sCallL n Fn fr env = (match fr env with
  | none => none
  | some (.ex x e) => some (.ex x e)
  | some (.ok os e) => match rds e os with
    | none => none
    | some ds => if ds.length = n then match Fn (ds.map .z) with
      | some (.rt t []) => if t.clean = true then some (.ok (.t t) e) else none
      | some (.ex x []) => if D.imms x.vs = true then some (.ex x e) else none
      | _ => none
      else none) := by
  unfold sCallL
  rfl
@[simp] theorem sCallT_ap : sCallT n io Fn fr env = (match fr env with
  | none => none
  | some (.ex x e) => some (.ex x e)
  | some (.ok os e) => match takeIO io os e with
    | none => none
    | some (ts, e1) => if ts.length = n then match Fn ts with
      | some (.rt t fin) => match putIO io os fin e1 with
        | some e2 => some (.ok (.t t) e2)
        | none => none
      | some (.ex x fin) => match putIO io os fin e1 with
        | some e2 => some (.ex x e2)
        | none => none
      | none => none
      else none) := rfl
@[simp] theorem sForN_ap : sForN i s g env = (match env[i]? with
  | some (some (.z d)) => match (T.z d).els with
    | some ds => forF s g ds env
    | none => none
  | some (some u) => match u.els with
    | some ds => back i u (forF s g ds (env.set i none))
    | none => none
  | _ => none) := rfl
@[simp] theorem sFor_ap : sFor fi s g env = (match fi env with
  | none => none
  | some (.ex x e) => some (.ex x e)
  | some (.ok (.t u) e) => match u.els with
    | some ds => forF s g ds e
    | none => none
  | some (.ok _ _) => none) := rfl
@[simp] theorem sForR_ap : sForR gr fr s g env = (match fr env with
  | none => none
  | some (.ex x e) => some (.ex x e)
  | some (.ok os e) => match rds e os with
    | none => none
    | some ds => match gr ds with
      | none => none
      | some (lo, n) => forF s g (rngD lo n) e) := rfl
@[simp] theorem gmName_ap {t : T} : gmName i t env = (if i < env.length then some (env.set i (some t)) else none) := rfl
@[simp] theorem gmCons_ap {t : T} {ts : List T} : gmCons s r (t :: ts) env = (match s t env with
    | none => none
    | some e => r ts e) := rfl
@[simp] theorem gmNil_ap : gmNil [] env = some env := rfl
@[simp] theorem gmTup_z {ds : List D} : gmTup n r (.z (.tup ds)) env = (if ds.length = n then r (ds.map .z) env else none) := rfl
@[simp] theorem gmTup_t {ts : List T} : gmTup n r (.tup ts) env = (if ts.length = n then r ts env else none) := rfl
@[simp] theorem sAsg_ap : sAsg s f env = (match f env with
  | none => none
  | some (.ex x e) => some (.ex x e)
  | some (.ok o e) => match o.take e with
    | none => none
    | some (t, e') => match s t e' with
      | none => none
      | some e2 => some (.nx e2)) := rfl
@[simp] theorem sPop_ap : sPop i env = (match env[i]? with
  | some (some (.lst ts)) => match ts.getLast? with
    | some t => some (.ok (.t t) (env.set i (some (.lst ts.dropLast))))
    | none => none
  | _ => none) := rfl
@[simp] theorem sRev_ap : sRev i env = (match env[i]? with
  | some (some (.lst ts)) => some (.nx (env.set i (some (.lst ts.reverse))))
  | _ => none) := rfl
@[simp] theorem sApp_ap : sApp i f env = (if isLst env i = true then match f env with
  | none => none
  | some (.ex x e) => some (.ex x e)
  | some (.ok o e) => match o.take e with
    | none => none
    | some (t, e') => match e'[i]? with
      | some (some (.lst ts)) => if ts.length < sizeLine then some (.nx (e'.set i (some (.lst (ts ++ [t]))))) else none
      | _ => none
  else none) := rfl
@[simp] theorem sSetAt_ap : sSetAt i fr env = (if isLst env i = true then match fr env with
  | none => none
  | some (.ex x e) => some (.ex x e)
  | some (.ok [o, k] e) => match k.rd e with
    | some (.int j) => match o.take e with
      | none => none
      | some (t, e') => match e'[i]? with
        | some (some (.lst ts)) => match ixN ts.length j with
          | some n => some (.nx (e'.set i (some (.lst (ts.set n t)))))
          | none => none
        | _ => none
    | _ => none
  | _ => none
  else none) := rfl
@[simp] theorem sYes_ap : sYes env = some (.ok true env) := rfl
@[simp] theorem sLc_ap : sLc own fi s fc fe env = (match fi env with
  | some (.ok (.t u) e1) => match u.els with
    | some ds => match compF own s fc fe ds (wipeE e1 own) [] with
      | some (ts, e2) => some (.ok (.t (.lst ts)) e2)
      | none => none
    | none => none
  | _ => none) := rfl
@[simp] theorem sLcN_ap : sLcN own i s fc fe env = (match env[i]? with
  | some (some (.z d)) => match (T.z d).els with
    | some ds => match compF own s fc fe ds (wipeE env own) [] with
      | some (ts, e2) => some (.ok (.t (.lst ts)) e2)
      | none => none
    | none => none
  | some (some u) => match u.els with
    | some ds => match compF own s fc fe ds (wipeE (env.set i none) own) [] with
      | some (ts, e2) => if i < e2.length then some (.ok (.t (.lst ts)) (e2.set i (some u))) else none
      | none => none
    | none => none
  | _ => none) := rfl
@[simp] theorem sLcR_ap : sLcR own gr fr s fc fe env = (match fr env with
  | some (.ok os e1) => match rds e1 os with
    | some ds => match gr ds with
      | some (lo, n) => match compF own s fc fe (rngD lo n) (wipeE e1 own) [] with
        | some (ts, e2) => some (.ok (.t (.lst ts)) e2)
        | none => none
      | none => none
    | none => none
  | _ => none) := rfl
theorem fnOf_ap {ts : List T} : fnOf n m io g ts = (if ts.length = n then match g (ts.map some ++ List.replicate (m - n) none) with
    | some (.nx e) => match fins io e with
      | some fin => some (.rt (.z .non) fin)
      | none => none
    | some (.rt t e) => match fins io e with
      | some fin => some (.rt t fin)
      | none => none
    | some (.ex x e) => match fins io e with
      | some fin => some (.ex x fin)
      | none => none
    | _ => none
  else none) := rfl
end
@[simp] theorem clean_z (d : D) : (T.z d).clean = d.imm := by rw [T.clean]
@[simp] theorem ers_append (a b : List T) : T.ers (a ++ b) = T.ers a ++ T.ers b := by
  induction a with
  | nil => rfl
  | cons d ds ih => simp [T.ers, ih]
@[simp] theorem ers_eq_nil (a : List T) : T.ers a = [] ↔ a = [] := by cases a <;> simp [T.ers]
@[simp] theorem ers_map_z (ds : List D) : T.ers (ds.map T.z) = ds := by
  induction ds with
  | nil => rfl
  | cons d ds ih => simp [T.ers, ih]
@[simp] theorem ers_mapf {α : Type} (f : α → D) (xs : List α) : T.ers (xs.map fun x => T.z (f x)) = xs.map f := by
  induction xs with
  | nil => rfl
  | cons d ds ih => simp [T.ers, ih]
@[simp] theorem zs_mapz {α : Type} (f : α → D) (xs : List α) : zs (xs.map fun x => T.z (f x)) = some (xs.map f) := by
  induction xs with
  | nil => rfl
  | cons d ds ih => simp [zs, ih]
@[simp] theorem imms_map {α : Type} (f : α → D) (h : ∀ x, (f x).imm = true) (xs : List α) : D.imms (xs.map f) = true := by
  induction xs with
  | nil => rfl
  | cons d ds ih => simp [D.imms, ih, h]
theorem cleans_map {α : Type} (f : α → D) (h : ∀ x, (f x).imm = true) (xs : List α) : T.cleans (xs.map fun x => T.z (f x)) = true := by
  induction xs with
  | nil => rfl
  | cons d ds ih => simp [T.cleans, T.clean, ih, h]
@[simp] theorem dT_imm (ns : List Int) : (dT ns).imm = true := by
  simp only [dT, D.imm]
  exact imms_map _ (fun _ => rfl) ns
theorem shds_map {α : Type} (n : Nat) (f : α → D) (h : ∀ x, (f x).shd n = true) (xs : List α) : D.shds n (xs.map f) = true := by
  induction xs with
  | nil => simp [D.shds]
  | cons d ds ih => simp [D.shds, ih, h]
@[simp] theorem shds_ints (n : Nat) (xs : List Int) : D.shds n (xs.map .int) = true := shds_map n _ (fun _ => by simp [D.shd]) xs
@[simp] theorem shds_dT (n : Nat) (xs : List (List Int)) : D.shds (n + 1) (xs.map dT) = true := shds_map _ _ (fun x => by simp [dT, D.shd]) xs
@[simp] theorem deq_int (a b : Int) : deq (.int a) (.int b) = decide (a = b) := by
  simp [deq, D.py, PyData.eqv]
  rfl
@[simp] theorem deq_bl (a b : Bool) : deq (.bl a) (.bl b) = decide (a = b) := by
  simp [deq, D.py, PyData.eqv]
  cases a <;> cases b <;> rfl
theorem eqvAll_map {α : Type} [DecidableEq α] (f : α → D) (h : ∀ x y, PyData.eqv (f x).py (f y).py = decide (x = y)) : ∀ (xs ys : List α), PyData.eqvAll (D.pys (xs.map f)) (D.pys (ys.map f)) = decide (xs = ys)
  | [], [] => rfl
  | [], _ :: _ => rfl
  | _ :: _, [] => rfl
  | x :: xs, y :: ys => by
    have ih := eqvAll_map f h xs ys
    simp only [List.map_cons, D.pys, PyData.eqvAll, h, ih]
    by_cases e : x = y <;> by_cases e2 : xs = ys <;> simp [e, e2]
@[simp] theorem deq_dT (a b : List Int) : deq (dT a) (dT b) = decide (a = b) := by
  have := eqvAll_map D.int (fun x y => deq_int x y) a b
  simpa [deq, D.py, PyData.eqv, dT] using this
@[simp] theorem deq_dT' (a b : List Int) : deq (.tup (a.map .int)) (.tup (b.map .int)) = decide (a = b) := deq_dT a b
@[simp] theorem deq_lT (a b : List (List Int)) : deq (.lst (a.map dT)) (.lst (b.map dT)) = decide (a = b) := by
  have := eqvAll_map dT (fun x y => deq_dT x y) a b
  simpa [deq, D.py, PyData.eqv] using this
@[simp] theorem deq_li (a b : List Int) : deq (.lst (a.map .int)) (.lst (b.map .int)) = decide (a = b) := by
  have := eqvAll_map D.int (fun x y => deq_int x y) a b
  simpa [deq, D.py, PyData.eqv] using this
theorem sizeLine_val : (10000 : Nat) < sizeLine := by decide
theorem atI_get {α : Type} (xs : List α) (k : Nat) (h : k < xs.length) : atI xs (k : Int) = some xs[k] := atI_nat (List.getElem?_eq_getElem h)
theorem ixN_get (n k : Nat) (h : k < n) : ixN n (k : Int) = some k := by
  unfold ixN
  rw [if_pos (by omega), if_pos (by omega)]
  simp
/-! ### the laws' helpers: cell, draws, take -/
noncomputable def gCell : SM :=
  (sSeq (sIfS (sTb (sO oLt (sCons true (sVar 1) (sCons true (sO (oS gLen) (sCons true (sVar 0) sNil)) sNil))))
    (sRet (sO oIx (sCons true (sVar 0) (sCons true (sVar 1) sNil))))
    sNext)
  (sRet (sC (.int 0))))
theorem cell_ev (ns : List Int) (k : Nat) : fnOf 2 2 [] gCell [.z (.kls (ns.map D.int)), iT k] = some (.rt (iT (ns.getD k 0)) []) := by
  unfold gCell
  by_cases h : k < ns.length
  · have e := atI_get (ns.map D.int) k (by simpa using h)
    simp [fnOf_ap, h, e]
  · have h2 : ¬ ((k : Int) < ns.length) := by omega
    simp [fnOf_ap, h, h2]
noncomputable def gTake : SM :=
  (sSeq (sIfS (sTb (sO (oS gEq) (sCons true (sO (oS gLen) (sCons true (sVar 0) sNil)) (sCons true (sC (.int 0)) sNil))))
    (sRet (sC (.int 0)))
    sNext)
  (sRet (sO oMod (sCons true (sO (oS gInt) (sCons true (sPop 0) sNil)) (sCons true (sVar 1) sNil)))))
/-- the draws as a machine -/
def dtake (xs : List Int) (n : Int) : Int × List Int := if xs = [] then (0, []) else (xs.getLastD 0 % n, xs.dropLast)
theorem take_ev (xs : List Int) (n : Int) (hn : 0 < n) : fnOf 2 2 [true] gTake [.lst (xs.map iT), iT n] = some (.rt (iT (dtake xs n).1) [.lst ((dtake xs n).2.map iT)]) := by
  unfold gTake dtake
  rcases List.eq_nil_or_concat xs with h | ⟨ys, y, rfl⟩
  · subst h
    simp [fnOf_ap]
  · have h2 : ¬ ((ys.length : Int) + 1 = 0) := by omega
    simp [fnOf_ap, h2, hn]
theorem dtake_bd (xs : List Int) {n : Int} (hn : 0 < n) : 0 ≤ (dtake xs n).1 ∧ (dtake xs n).1 < n := by
  unfold dtake
  split
  · exact ⟨by simp, hn⟩
  · exact ⟨Int.emod_nonneg _ (by omega), Int.emod_lt_of_pos _ hn⟩
theorem pow_ev {env : En} (i j k : Int) (h : 0 ≤ j ∧ j ≤ 1000000 ∧ i.natAbs < 2 ^ 64) (e : i ^ j.toNat = k) : sO oPow (sCons true (sC (.int i)) (sCons true (sC (.int j)) sNil)) env = some (.ok (.t (iT k)) env) := by
  have hd : decide (0 ≤ j ∧ j ≤ 1000000 ∧ i.natAbs < 2 ^ 64) = true := decide_eq_true h
  simp only [sO_ap, sCons_ap, sC_ap, sNil_ap, Bool.true_or, if_true, oPow, oS, gI, rds, Opd.rd, T.er, hd, e, D.scal]
@[simp high] theorem pow18 {env : En} : sO oPow (sCons true (sC (.int 10)) (sCons true (sC (.int 18)) sNil)) env = some (.ok (.t (iT 1000000000000000000)) env) := pow_ev 10 18 _ (by decide) (by decide)
@[simp high] theorem pow30 {env : En} : sO oPow (sCons true (sC (.int 10)) (sCons true (sC (.int 30)) sNil)) env = some (.ok (.t (iT 1000000000000000000000000000000)) env) := pow_ev 10 30 _ (by decide) (by decide)
theorem sSeq_nx {g h : SM} {env e : En} (x : g env = some (.nx e)) : sSeq g h env = h e := by rw [sSeq_ap, x]
theorem sSeq_rt {g h : SM} {env e : En} {t : T} (x : g env = some (.rt t e)) : sSeq g h env = some (.rt t e) := by rw [sSeq_ap, x]
theorem p64 : (2 : Int) ^ 64 = 18446744073709551616 := by decide
theorem mul_ev {env : En} {p : Bool} {fa fb : EM Opd} {i j : Int} (a : fa env = some (.ok (.t (iT i)) env)) (b : fb env = some (.ok (.t (iT j)) env)) (h : (-18446744073709551616 < i ∧ i < 18446744073709551616) ∨ (-18446744073709551616 < j ∧ j < 18446744073709551616)) : sO oMul (sCons p fa (sCons true fb sNil)) env = some (.ok (.t (iT (i * j))) env) := by
  have e : oMul env [.t (iT i), .t (iT j)] = some (.t (iT (i * j))) := by
    unfold oMul
    simp only [Opd.rd, T.er]
    have : okMul i j = true := by rw [okMul_eq]; exact decide_eq_true (by rw [p64]; exact h)
    simp only [this, if_true]
  simp only [sO_ap, sCons_ap, sNil_ap, a, b, Bool.true_or, Opd.stays, Bool.or_true, if_true, e]
noncomputable def gDraw1 : SM := (sSet 6 (sO oMod (sCons true (sVar 5) (sCons true (sO (oS gLen) (sCons true (sVar 2) sNil)) sNil))))
noncomputable def gDraw2 : SM := (sSet 7 (sO oIx (sCons true (sVar 2) (sCons true (sVar 6) sNil))))
noncomputable def gDraw3 : SM := (sSet 4 (sO oMod (sCons true (sO (oS gInt) (sCons true (sO oAdd (sCons true (sO oAdd (sCons true (sO oAdd (sCons true (sO oMul (sCons true (sVar 4) (sCons true (sC (.int 48271)) sNil))) (sCons true (sO oMul (sCons true (sO oMod (sCons true (sO (oS gInt) (sCons true (sVar 7) sNil)) (sCons true (sC (.int 1000003)) sNil))) (sCons true (sC (.int 69621)) sNil))) sNil))) (sCons true (sO oMul (sCons true (sVar 5) (sCons true (sC (.int 7919)) sNil))) sNil))) (sCons true (sC (.int 11)) sNil))) sNil)) (sCons true (sC (.int 2147483647)) sNil))))
noncomputable def gDraw4 : SM := (sSet 8 (sO oMod (sCons true (sO (oS gInt) (sCons true (sO oAdd (sCons true (sO oAdd (sCons true (sO oMul (sCons true (sVar 4) (sCons true (sVar 4) sNil))) (sCons true (sO oMul (sCons true (sC (.int 31)) (sCons true (sVar 4) sNil))) sNil))) (sCons true (sVar 5) sNil))) sNil)) (sCons true (sC (.int 1000003)) sNil))))
noncomputable def gDraw5 : SM := (sIfS (sTb (sO oGe (sCons true (sVar 7) (sCons true (sO oPow (sCons true (sC (.int 10)) (sCons true (sC (.int 18)) sNil))) sNil))))
      (sSeq (sApp 3 (sO oMod (sCons true (sO (oS gInt) (sCons true (sVar 7) sNil)) (sCons true (sC (.int 1000)) sNil))))
      (sSetAt 2 (sCons true (sO oDiv (sCons true (sVar 7) (sCons true (sC (.int 1000)) sNil))) (sCons true (sVar 6) sNil))))
      (sApp 3 (sO oMod (sCons true (sO (oS gInt) (sCons true (sVar 8) sNil)) (sCons true (sC (.int 1000)) sNil)))))
noncomputable def gDrawB : SM := sSeq gDraw1 (sSeq gDraw2 (sSeq gDraw3 (sSeq gDraw4 gDraw5)))
noncomputable def gDraws : SM :=
  (sSeq (sSet 2 (sO oListOf (sCons true (sVar 0) sNil)))
  (sSeq (sIfS (sTb (sO (oS gEq) (sCons true (sO (oS gLen) (sCons true (sVar 2) sNil)) (sCons true (sC (.int 0)) sNil))))
    (sSet 2 (sO oLst (sCons true (sC (.int 7)) sNil)))
    sNext)
  (sSeq (sSet 3 (sTake hLst sNil))
  (sSeq (sSet 4 (sC (.int 12345)))
  (sSeq (sForR gRng1 (sCons true (sVar 1) sNil) (gmName 5)
    gDrawB)
  (sSeq (sRev 3)
  (sRet (sVar 3))))))))
section
variable (s0 s1 a b c : Option T) (cells found : List Int) (mixed : Int) (k : Nat)
theorem draw1_ev (hc : cells ≠ []) : gDraw1 [s0, s1, some (.lst (cells.map iT)), some (.lst (found.map iT)), some (iT mixed), some (iT k), a, b, c] = some (.nx [s0, s1, some (.lst (cells.map iT)), some (.lst (found.map iT)), some (iT mixed), some (iT k), some (iT ((k % cells.length : Nat) : Int)), b, c]) := by
  have hl : 0 < cells.length := by cases cells with | nil => exact absurd rfl hc | cons _ _ => simp
  unfold gDraw1
  simp [hl]
theorem draw2_ev (j : Nat) (hj : j < cells.length) : gDraw2 [s0, s1, some (.lst (cells.map iT)), some (.lst (found.map iT)), some (iT mixed), some (iT k), some (iT j), b, c] = some (.nx [s0, s1, some (.lst (cells.map iT)), some (.lst (found.map iT)), some (iT mixed), some (iT k), some (iT j), some (iT cells[j]), c]) := by
  have e1 : atI (cells.map iT) (j : Int) = some (iT cells[j]) := by
    have := atI_get (cells.map iT) j (by simpa using hj)
    simpa using this
  unfold gDraw2
  simp [e1]
theorem add_ev {env : En} {p : Bool} {fa fb : EM Opd} {i j : Int} (a : fa env = some (.ok (.t (iT i)) env)) (b : fb env = some (.ok (.t (iT j)) env)) : sO oAdd (sCons p fa (sCons true fb sNil)) env = some (.ok (.t (iT (i + j))) env) := by
  simp only [sO_ap, sCons_ap, sNil_ap, a, b, Bool.true_or, Opd.stays, Bool.or_true, if_true, oAdd, Opd.rd, T.er]
theorem mod_ev {env : En} {p : Bool} {fa fb : EM Opd} {i j : Int} (a : fa env = some (.ok (.t (iT i)) env)) (b : fb env = some (.ok (.t (iT j)) env)) (h : 0 < j) : sO oMod (sCons p fa (sCons true fb sNil)) env = some (.ok (.t (iT (i % j))) env) := by
  have hd : decide (0 < j) = true := decide_eq_true h
  simp only [sO_ap, sCons_ap, sNil_ap, a, b, Bool.true_or, Opd.stays, Bool.or_true, if_true, oMod, oS, gI, rds, Opd.rd, T.er, hd, D.scal]
theorem int_ev {env : En} {fa : EM Opd} {i : Int} (a : fa env = some (.ok (.t (iT i)) env)) : sO (oS gInt) (sCons true fa sNil) env = some (.ok (.t (iT i)) env) := by
  simp only [sO_ap, sCons_ap, sNil_ap, a, Bool.true_or, if_true, oS, gInt, rds, Opd.rd, T.er, D.scal]
theorem set_ev {env : En} {f : EM Opd} {i : Nat} {d : D} (a : f env = some (.ok (.t (.z d)) env)) (h : i < env.length) : sSet i f env = some (.nx (env.set i (some (.z d)))) := by
  simp only [sSet_ap, a, Opd.take, if_pos h]
theorem draw3_ev (j : Int) (cell : Int) (hm : 0 ≤ mixed ∧ mixed < 2147483647) : gDraw3 [s0, s1, some (.lst (cells.map iT)), some (.lst (found.map iT)), some (iT mixed), some (iT k), some (iT j), some (iT cell), c] =
    some (.nx [s0, s1, some (.lst (cells.map iT)), some (.lst (found.map iT)), some (iT ((mixed * 48271 + cell % 1000003 * 69621 + (k : Int) * 7919 + 11) % 2147483647)), some (iT k), some (iT j), some (iT cell), c]) :=
  set_ev (mod_ev (int_ev (add_ev (add_ev (add_ev (mul_ev rfl rfl (.inr (by decide))) (mul_ev (mod_ev (int_ev rfl) rfl (by decide)) rfl (.inr (by decide)))) (mul_ev rfl rfl (.inr (by decide)))) rfl)) rfl (by decide)) (by simp)
theorem draw4_ev (j : Int) (cell : Int) (hm : 0 ≤ mixed ∧ mixed < 2147483647) : gDraw4 [s0, s1, some (.lst (cells.map iT)), some (.lst (found.map iT)), some (iT mixed), some (iT k), some (iT j), some (iT cell), c] =
    some (.nx [s0, s1, some (.lst (cells.map iT)), some (.lst (found.map iT)), some (iT mixed), some (iT k), some (iT j), some (iT cell), some (iT ((mixed * mixed + 31 * mixed + (k : Int)) % 1000003))]) :=
  set_ev (mod_ev (int_ev (add_ev (add_ev (mul_ev rfl rfl (.inl ⟨by omega, by omega⟩)) (mul_ev rfl rfl (.inl (by decide)))) rfl)) rfl (by decide)) (by simp)
theorem draw5_ev (j : Nat) (hj : j < cells.length) (cell again : Int) (hf : found.length < 10000) : ∃ (cells' : List Int) (x : Int), gDraw5 [s0, s1, some (.lst (cells.map iT)), some (.lst (found.map iT)), some (iT mixed), some (iT k), some (iT j), some (iT cell), some (iT again)] =
    some (.nx [s0, s1, some (.lst (cells'.map iT)), some (.lst ((found ++ [x]).map iT)), some (iT mixed), some (iT k), some (iT j), some (iT cell), some (iT again)]) ∧ cells'.length = cells.length ∧ 0 ≤ x ∧ x < 1000 := by
  have e2 : ixN cells.length (j : Int) = some j := ixN_get cells.length j hj
  have sl : found.length < sizeLine := Nat.lt_trans hf sizeLine_val
  unfold gDraw5
  by_cases hg : (1000000000000000000 : Int) ≤ cell
  · refine ⟨cells.set j (cell / 1000), cell % 1000, ?_, by simp, Int.emod_nonneg _ (by decide), Int.emod_lt_of_pos _ (by decide)⟩
    simp [e2, hg, sl, List.map_set]
  · refine ⟨cells, again % 1000, ?_, rfl, Int.emod_nonneg _ (by decide), Int.emod_lt_of_pos _ (by decide)⟩
    simp [e2, hg, sl]
end
theorem drawB_ev (s0 s1 : Option T) (cells found : List Int) (mixed : Int) (k : Nat) (a b c : Option T) (hc : cells ≠ []) (hm : 0 ≤ mixed ∧ mixed < 2147483647) (hf : found.length < 10000) :
    ∃ (cells' : List Int) (x mixed' : Int) (a' b' c' : Option T), gDrawB [s0, s1, some (.lst (cells.map iT)), some (.lst (found.map iT)), some (iT mixed), some (iT k), a, b, c] = some (.nx [s0, s1, some (.lst (cells'.map iT)), some (.lst ((found ++ [x]).map iT)), some (iT mixed'), some (iT k), a', b', c']) ∧
      cells' ≠ [] ∧ (0 ≤ mixed' ∧ mixed' < 2147483647) ∧ 0 ≤ x ∧ x < 1000 := by
  have hl : 0 < cells.length := by cases cells with | nil => exact absurd rfl hc | cons _ _ => simp
  have hj : k % cells.length < cells.length := Nat.mod_lt _ hl
  have b1 : ∀ z : Int, 0 ≤ z % 2147483647 ∧ z % 2147483647 < 2147483647 := fun z => ⟨Int.emod_nonneg _ (by decide), Int.emod_lt_of_pos _ (by decide)⟩
  generalize hM : (mixed * 48271 + cells[k % cells.length] % 1000003 * 69621 + (k : Int) * 7919 + 11) % 2147483647 = M
  have bM : 0 ≤ M ∧ M < 2147483647 := by rw [← hM]; exact b1 _
  obtain ⟨cells', x, e5, h1, h2, h3⟩ := draw5_ev s0 s1 cells found M k (k % cells.length) hj cells[k % cells.length] ((M * M + 31 * M + (k : Int)) % 1000003) hf
  refine ⟨cells', x, M, some (iT ((k % cells.length : Nat) : Int)), some (iT cells[k % cells.length]), some (iT ((M * M + 31 * M + (k : Int)) % 1000003)), ?_, fun z => by rw [z] at h1; simp at h1; omega, bM, h2, h3⟩
  unfold gDrawB
  rw [sSeq_nx (draw1_ev s0 s1 a b c cells found mixed k hc), sSeq_nx (draw2_ev s0 s1 b c cells found mixed k _ hj), sSeq_nx (draw3_ev s0 s1 c cells found mixed k _ _ hm), hM, sSeq_nx (draw4_ev s0 s1 c cells found M k _ _ bM)]
  exact e5
theorem drawF_ev (s0 s1 : Option T) : ∀ (n : Nat) (k : Nat) (cells found : List Int) (mixed : Int) (i a b c : Option T), cells ≠ [] → (0 ≤ mixed ∧ mixed < 2147483647) → found.length + n < 10000 → (∀ x ∈ found, 0 ≤ x ∧ x < 1000) →
    ∃ (cells' found' : List Int) (mixed' : Int) (i' a' b' c' : Option T), forF (gmName 5) gDrawB (rngD (k : Int) n) [s0, s1, some (.lst (cells.map iT)), some (.lst (found.map iT)), some (iT mixed), i, a, b, c] = some (.nx [s0, s1, some (.lst (cells'.map iT)), some (.lst (found'.map iT)), some (iT mixed'), i', a', b', c']) ∧
      found'.length = found.length + n ∧ ∀ x ∈ found', 0 ≤ x ∧ x < 1000
  | 0, k, cells, found, mixed, i, a, b, c, hc, hm, hf, hx => ⟨cells, found, mixed, i, a, b, c, rfl, rfl, hx⟩
  | n + 1, k, cells, found, mixed, i, a, b, c, hc, hm, hf, hx => by
    obtain ⟨cells1, x, mixed1, a1, b1, c1, e, h1, h2, h3, h4⟩ := drawB_ev s0 s1 cells found mixed k a b c hc hm (by omega)
    obtain ⟨cells2, found2, mixed2, i2, a2, b2, c2, e2, l2, x2⟩ := drawF_ev s0 s1 n (k + 1) cells1 (found ++ [x]) mixed1 (some (iT k)) a1 b1 c1 h1 h2 (by simp; omega) (fun y hy => by
      rcases List.mem_append.mp hy with z | z
      · exact hx y z
      · rw [List.mem_singleton.mp z]; exact ⟨h3, h4⟩)
    refine ⟨cells2, found2, mixed2, i2, a2, b2, c2, ?_, by rw [l2]; simp; omega, x2⟩
    simp only [rngD, forF, gmName_ap, List.length_cons, List.length_nil]
    simp only [List.set_cons_succ, List.set_cons_zero, if_pos (show 5 < 0 + 1 + 1 + 1 + 1 + 1 + 1 + 1 + 1 + 1 by decide), e]
    rw [← e2]
    push_cast
    rfl
theorem inB_62 (n : Nat) (h : n < 1000000) : inB 62 n = true :=
  inB_nat (Int.lt_of_lt_of_le (show (n : Int) < 2 ^ 20 by
    have e : (2 : Int) ^ 20 = 1048576 := by decide
    rw [e]; omega) (by decide))
theorem gRng1_ev (n : Nat) (h : n < 1000000) : gRng1 [.int n] = some (0, n) := by
  unfold gRng1
  simp only [inB_62 n h, if_true, Int.toNat_natCast]
/-- a loop over range(x) -/
theorem forR1_ev {env : En} {s : GM} {g : SM} {f : EM Opd} {n : Nat} (a : f env = some (.ok (.t (iT n)) env)) (h : n < 1000000) : sForR gRng1 (sCons true f sNil) s g env = forF s g (rngD 0 n) env := by
  simp only [sForR_ap, sCons_ap, a, sNil_ap, Bool.true_or, if_true, rds, Opd.rd, T.er, gRng1_ev n h]
theorem draws_go (d : D) (n : Nat) (hn : n < 10000) (cells : List Int) (hc : cells ≠ []) : ∃ (xs : List Int) (e : En), (sSeq (sSet 3 (sTake hLst sNil)) (sSeq (sSet 4 (sC (.int 12345))) (sSeq (sForR gRng1 (sCons true (sVar 1) sNil) (gmName 5) gDrawB) (sSeq (sRev 3) (sRet (sVar 3))))))
      [some (.z d), some (iT n), some (.lst (cells.map iT)), none, none, none, none, none, none] = some (.rt (.lst (xs.map iT)) e) ∧ xs.length = n ∧ ∀ x ∈ xs, 0 ≤ x ∧ x < 1000 := by
  obtain ⟨cells', found', mixed', i', a', b', c', e, l, bd⟩ := drawF_ev (some (.z d)) (some (iT n)) n 0 cells [] 12345 none none none none hc (by decide) (by simpa using hn) (by simp)
  refine ⟨found'.reverse, [some (.z d), some (iT n), some (.lst (cells'.map iT)), none, some (iT mixed'), i', a', b', c'], ?_, by simpa using l, fun x hx => bd x (by simpa using hx)⟩
  have e1 : (sSet 3 (sTake hLst sNil)) [some (.z d), some (iT n), some (.lst (cells.map iT)), none, none, none, none, none, none] = some (.nx [some (.z d), some (iT n), some (.lst (cells.map iT)), some (.lst []), none, none, none, none, none]) := by
    simp only [sSet_ap, sTake_ap, sNil_ap, takes, hLst, List.length_nil, Nat.zero_le, if_true, Opd.take]
    rfl
  have e2 : (sSet 4 (sC (.int 12345))) [some (.z d), some (iT n), some (.lst (cells.map iT)), some (.lst []), none, none, none, none, none] = some (.nx [some (.z d), some (iT n), some (.lst (cells.map iT)), some (.lst (([] : List Int).map iT)), some (iT 12345), none, none, none, none]) := rfl
  have e3 : (sForR gRng1 (sCons true (sVar 1) sNil) (gmName 5) gDrawB) [some (.z d), some (iT n), some (.lst (cells.map iT)), some (.lst (([] : List Int).map iT)), some (iT 12345), none, none, none, none] = some (.nx [some (.z d), some (iT n), some (.lst (cells'.map iT)), some (.lst (found'.map iT)), some (iT mixed'), i', a', b', c']) := by
    rw [forR1_ev (n := n) rfl (by omega)]
    exact e
  have e4 : (sRev 3) [some (.z d), some (iT n), some (.lst (cells'.map iT)), some (.lst (found'.map iT)), some (iT mixed'), i', a', b', c'] = some (.nx [some (.z d), some (iT n), some (.lst (cells'.map iT)), some (.lst (found'.reverse.map iT)), some (iT mixed'), i', a', b', c']) := by
    rw [List.map_reverse]
    rfl
  rw [sSeq_nx e1, sSeq_nx e2, sSeq_nx e3, sSeq_nx e4]
  rfl
theorem draws_ev (ns : List Int) (n : Nat) (hn : n < 10000) : ∃ xs : List Int, fnOf 2 9 [] gDraws [.z (.kls (ns.map D.int)), iT n] = some (.rt (.lst (xs.map iT)) []) ∧ xs.length = n ∧ ∀ x ∈ xs, 0 ≤ x ∧ x < 1000 := by
  have key : ∃ (xs : List Int) (e : En), gDraws [some (.z (.kls (ns.map D.int))), some (iT n), none, none, none, none, none, none, none] = some (.rt (.lst (xs.map iT)) e) ∧ xs.length = n ∧ ∀ x ∈ xs, 0 ≤ x ∧ x < 1000 := by
    have e1 : (sSet 2 (sO oListOf (sCons true (sVar 0) sNil))) [some (.z (.kls (ns.map D.int))), some (iT n), none, none, none, none, none, none, none] = some (.nx [some (.z (.kls (ns.map D.int))), some (iT n), some (.lst (ns.map iT)), none, none, none, none, none, none]) := by
      simp
    unfold gDraws
    rw [sSeq_nx e1]
    cases ns with
    | nil =>
      have e2 : (sIfS (sTb (sO (oS gEq) (sCons true (sO (oS gLen) (sCons true (sVar 2) sNil)) (sCons true (sC (.int 0)) sNil)))) (sSet 2 (sO oLst (sCons true (sC (.int 7)) sNil))) sNext) [some (.z (.kls (([] : List Int).map D.int))), some (iT n), some (.lst (([] : List Int).map iT)), none, none, none, none, none, none] = some (.nx [some (.z (.kls (([] : List Int).map D.int))), some (iT n), some (.lst (([7] : List Int).map iT)), none, none, none, none, none, none]) := by
        have h1 : 1 ≤ sizeLine := Nat.le_trans (by decide : 1 ≤ 10000) (Nat.le_of_lt sizeLine_val)
        simp [h1]
      rw [sSeq_nx e2]
      exact draws_go _ n hn [7] (by simp)
    | cons y ys =>
      have e2 : (sIfS (sTb (sO (oS gEq) (sCons true (sO (oS gLen) (sCons true (sVar 2) sNil)) (sCons true (sC (.int 0)) sNil)))) (sSet 2 (sO oLst (sCons true (sC (.int 7)) sNil))) sNext) [some (.z (.kls ((y :: ys).map D.int))), some (iT n), some (.lst ((y :: ys).map iT)), none, none, none, none, none, none] = some (.nx [some (.z (.kls ((y :: ys).map D.int))), some (iT n), some (.lst ((y :: ys).map iT)), none, none, none, none, none, none]) := by
        have : ¬ ((ys.length : Int) + 1 = 0) := by omega
        simp [this]
      rw [sSeq_nx e2]
      exact draws_go _ n hn (y :: ys) (by simp)
  obtain ⟨xs, e, h1, h2, h3⟩ := key
  refine ⟨xs, ?_, h2, h3⟩
  rw [fnOf_ap, if_pos (show ([T.z (.kls (ns.map D.int)), iT n] : List T).length = 2 from rfl)]
  show (match gDraws [some (.z (.kls (ns.map D.int))), some (iT n), none, none, none, none, none, none, none] with
    | some (.nx e) => _ | some (.rt t e) => _ | some (.ex x e) => _ | _ => _) = _
  rw [h1]
  rfl
end DL

/-! DL17: loops by invariants. -/
namespace DL
open PySem PySem.Spec PyProof.Rows L2
theorem fn_rt {n m : Nat} {g : SM} {ts : List T} {t : T} {e : En} (hl : ts.length = n) (h : g (ts.map some ++ List.replicate (m - n) none) = some (.rt t e)) : fnOf n m [] g ts = some (.rt t []) := by
  rw [fnOf_ap, if_pos hl, h]
  rfl
theorem fn_io {n m : Nat} {g : SM} {ts : List T} {t : T} {e : En} {io : List Bool} {fin : List T} (hl : ts.length = n) (h : g (ts.map some ++ List.replicate (m - n) none) = some (.rt t e)) (hf : fins io e = some fin) : fnOf n m io g ts = some (.rt t fin) := by
  rw [fnOf_ap, if_pos hl, h]
  simp only [hf]
/-- a loop that runs through -/
theorem forF_from {s : GM} {g : SM} (I : List D → En → Prop) : ∀ (ds p : List D) (env : En), I p env → (∀ p' d q env, p ++ ds = p' ++ d :: q → I p' env → ∃ e1 e2, s (.z d) env = some e1 ∧ (g e1 = some (.nx e2) ∨ g e1 = some (.ct e2)) ∧ I (p' ++ [d]) e2) → ∃ e, forF s g ds env = some (.nx e) ∧ I (p ++ ds) e
  | [], p, env, h0, _ => ⟨env, rfl, by simpa using h0⟩
  | d :: ds, p, env, h0, h => by
    obtain ⟨e1, e2, h1, h2, h3⟩ := h p d ds env rfl h0
    obtain ⟨e, h4, h5⟩ := forF_from I ds (p ++ [d]) e2 h3 fun p' d' q env' x => h p' d' q env' (by rw [← x]; simp)
    refine ⟨e, ?_, by simpa using h5⟩
    unfold forF
    rw [h1]
    rcases h2 with h2 | h2
    · simp only [h2]; exact h4
    · simp only [h2]; exact h4
theorem forF_inv {s : GM} {g : SM} (I : List D → En → Prop) {ds : List D} {env : En} (h0 : I [] env) (h : ∀ p d q env, ds = p ++ d :: q → I p env → ∃ e1 e2, s (.z d) env = some e1 ∧ (g e1 = some (.nx e2) ∨ g e1 = some (.ct e2)) ∧ I (p ++ [d]) e2) : ∃ e, forF s g ds env = some (.nx e) ∧ I ds e := by
  simpa using forF_from I ds [] env h0 (by simpa using h)
/-- .. nothing kept of what was passed -/
theorem forF_all {s : GM} {g : SM} (I : En → Prop) {ds : List D} {env : En} (h0 : I env) (h : ∀ d ∈ ds, ∀ env, I env → ∃ e1 e2, s (.z d) env = some e1 ∧ (g e1 = some (.nx e2) ∨ g e1 = some (.ct e2)) ∧ I e2) : ∃ e, forF s g ds env = some (.nx e) ∧ I e :=
  forF_inv (fun _ e => I e) h0 fun p d q env x i => h d (by rw [x]; simp) env i
theorem compF_from {own : List Nat} {s : GM} {fc : EM Bool} {fe : EM Opd} (I : List D → List T → En → Prop) : ∀ (ds p : List D) (acc : List T) (env : En), acc.length ≤ p.length → (p ++ ds).length < 10000 → I p acc env →
    (∀ p' d q acc env, p ++ ds = p' ++ d :: q → acc.length ≤ p'.length → I p' acc env → ∃ e1, s (.z d) env = some e1 ∧ ((∃ e2 o e3 t e4, fc e1 = some (.ok true e2) ∧ fe e2 = some (.ok o e3) ∧ o.take e3 = some (t, e4) ∧ I (p' ++ [d]) (acc ++ [t]) (wipeE e4 own)) ∨ ∃ e2, fc e1 = some (.ok false e2) ∧ I (p' ++ [d]) acc (wipeE e2 own))) →
    ∃ ts e, compF own s fc fe ds env acc = some (ts, e) ∧ I (p ++ ds) ts e
  | [], p, acc, env, _, _, h0, _ => ⟨acc, env, rfl, by simpa using h0⟩
  | d :: ds, p, acc, env, hl, hs, h0, h => by
    have hlen : acc.length < sizeLine := by
      have := sizeLine_val
      simp at hs
      omega
    obtain ⟨e1, h1, h2⟩ := h p d ds acc env rfl hl h0
    rcases h2 with ⟨e2, o, e3, t, e4, a1, a2, a3, a4⟩ | ⟨e2, a1, a2⟩
    · obtain ⟨ts, e, h4, h5⟩ := compF_from I ds (p ++ [d]) (acc ++ [t]) (wipeE e4 own) (by simpa using hl) (by simpa using hs) a4 fun p' d' q acc' env' x => h p' d' q acc' env' (by rw [← x]; simp)
      refine ⟨ts, e, ?_, by simpa using h5⟩
      unfold compF
      simp only [h1, a1, a2, a3, if_pos hlen]
      exact h4
    · obtain ⟨ts, e, h4, h5⟩ := compF_from I ds (p ++ [d]) acc (wipeE e2 own) (by simp; omega) (by simpa using hs) a2 fun p' d' q acc' env' x => h p' d' q acc' env' (by rw [← x]; simp)
      refine ⟨ts, e, ?_, by simpa using h5⟩
      unfold compF
      simp only [h1, a1]
      exact h4
theorem compF_inv {own : List Nat} {s : GM} {fc : EM Bool} {fe : EM Opd} (I : List D → List T → En → Prop) {ds : List D} {env : En} (hs : ds.length < 10000) (h0 : I [] [] env)
    (h : ∀ p d q acc env, ds = p ++ d :: q → acc.length ≤ p.length → I p acc env → ∃ e1, s (.z d) env = some e1 ∧ ((∃ e2 o e3 t e4, fc e1 = some (.ok true e2) ∧ fe e2 = some (.ok o e3) ∧ o.take e3 = some (t, e4) ∧ I (p ++ [d]) (acc ++ [t]) (wipeE e4 own)) ∨ ∃ e2, fc e1 = some (.ok false e2) ∧ I (p ++ [d]) acc (wipeE e2 own))) :
    ∃ ts e, compF own s fc fe ds env [] = some (ts, e) ∧ I ds ts e := by
  simpa using compF_from I ds [] [] env (by simp) (by simpa using hs) h0 (by simpa using h)
/-- a comprehension that maps each item, all else staying -/
theorem compF_map {own : List Nat} {s : GM} {fe : EM Opd} {α : Type} (f : α → D) (h : α → T) {env : En} (xs : List α) (hs : xs.length < 10000)
    (step : ∀ x ∈ xs, ∃ e1 o e3 e4, s (.z (f x)) env = some e1 ∧ fe e1 = some (.ok o e3) ∧ o.take e3 = some (h x, e4) ∧ wipeE e4 own = env) : compF own s sYes fe (xs.map f) env [] = some (xs.map h, env) := by
  have go : ∀ (xs : List α) (acc : List T), acc.length + xs.length < 10000 → (∀ x ∈ xs, ∃ e1 o e3 e4, s (.z (f x)) env = some e1 ∧ fe e1 = some (.ok o e3) ∧ o.take e3 = some (h x, e4) ∧ wipeE e4 own = env) → compF own s sYes fe (xs.map f) env acc = some (acc ++ xs.map h, env) := by
    intro xs
    induction xs with
    | nil => intro acc _ _; simp [compF]
    | cons x xs ih =>
      intro acc hl st
      obtain ⟨e1, o, e3, e4, h1, h2, h3, h4⟩ := st x List.mem_cons_self
      have hlen : acc.length < sizeLine := by
        have := sizeLine_val
        simp at hl
        omega
      have := ih (acc ++ [h x]) (by simp at hl ⊢; omega) fun y hy => st y (List.mem_cons_of_mem _ hy)
      rw [List.map_cons]
      unfold compF
      simp only [h1, sYes_ap, h2, h3, if_pos hlen, h4, this]
      simp
  simpa using go xs [] (by simpa using hs) step
theorem rngD_map (lo : Int) (n : Nat) : rngD lo n = (List.range n).map fun i : Nat => D.int (lo + (i : Int)) := by
  induction n generalizing lo with
  | zero => rfl
  | succ n ih =>
    rw [List.range_succ_eq_map, List.map_cons, List.map_map, rngD, ih (lo + 1)]
    simp only [Function.comp_def, Int.natCast_zero, Int.add_zero, List.cons.injEq, true_and]
    apply List.map_congr_left
    intro i _
    congr 1
    push_cast
    omega
end DL

/-! DL18: unary minus, a global's number. -/
namespace DL
open PySem PySem.Spec PyProof.Rows L2
@[simp] def gNeg : List D → Option D
  | [.int i] => some (.int (-i))
  | _ => none
theorem link_neg {K : PySem.W.Frag} : Link K (oS gNeg) (fun xs H Q => (rU fun i => .int (-i)) (xs.getD 0 .non) H Q) := by
  refine link_S fun H xs ds d Q r e q => ?_
  unfold gNeg at e
  split at e
  · obtain ⟨x, rfl, r1⟩ := r.one
    cases e
    have := r1.v_int; subst this
    exact ⟨_, rfl, q⟩
  · cases e
section
variable {X : Cx} {W : WX} {a : Expr} {pos : Pos} {p1 : Bool} {fa : EM Opd} {x : Str}
theorem pq_neg (ha : PQ X W p1 a fa) : PQ X W p1 (.UnaryOp .USub a pos) (sO (oS gNeg) (sCons true fa sNil)) := pq_un un_neg link_neg ha
theorem pq_gi {p : Bool} {i : Int} (hg : Gl X x) (hm : ∃ t, X.mg x = some (.int i t)) (hd : (x == ("__debug__" : Str)) = false := by decide) : PQ X W p (.Name x pos) (sC (.int i)) := by
  obtain ⟨t, hm⟩ := hm
  exact pq_c (pe_glob (v := .int i) hg hm ⟨t, rfl⟩ hd) fun _ _ _ => .int
end
end DL

/-! DL19: places in owned trees. -/
namespace DL
open PySem PySem.Spec PyProof.Rows L2
def T.kid : T → Nat → Option T
  | .z _, _ => none
  | .tup ts, n => ts[n]?
  | .lst ts, n => ts[n]?
  | .dic _ _ ts, n => ts[n]?
  | .obj _ _ ts, n => ts[n]?
def T.setKid : T → Nat → T → T
  | .z d, _, _ => .z d
  | .tup ts, n, w => .tup (ts.set n w)
  | .lst ts, n, w => .lst (ts.set n w)
  | .dic b ks ts, n, w => .dic b ks (ts.set n w)
  | .obj C ns ts, n, w => .obj C ns (ts.set n w)
def T.at : List Nat → T → Option T
  | [], u => some u
  | n :: p, u => match u.kid n with
    | some k => T.at p k
    | none => none
def T.put : List Nat → T → T → T
  | [], _, w => w
  | n :: p, u, w => match u.kid n with
    | some k => u.setKid n (T.put p k w)
    | none => u
section
variable {K : PySem.W.Frag} {Z H : Hp}
theorem RepTs.lens {ts : List T} {vs : List V} {F : List Addr} (h : RepTs K Z H ts vs F) : ∀ {n : Nat} {t : T}, ts[n]? = some t → ∃ A Fi B v, F = A ++ Fi ++ B ∧ vs[n]? = some v ∧ RepT K Z H t v Fi ∧
    ∀ Z' H', (∀ a o, Z a = some o → Z' a = some o) → (∀ a xs, H a = some (.tup xs) → H' a = some (.tup xs)) → (∀ a ∈ A ++ B, ∀ o, H a = some o → H' a = some o) →
      ∀ t' G, RepT K Z' H' t' v G → RepTs K Z' H' (ts.set n t') vs (A ++ G ++ B) := by
  induction ts generalizing vs F with
  | nil => intro n t q; simp at q
  | cons t0 ts0 ih =>
    cases h with
    | @cons _ v0 _ vs0 F0 G0 s r =>
      intro n t q
      cases n with
      | zero =>
        simp at q; subst q
        refine ⟨[], F0, G0, v0, by simp, by simp, s, fun Z' H' zz tt k t' G s' => ?_⟩
        simpa using RepTs.cons s' (r.keep zz tt fun a ha => k a (by simpa using ha))
      | succ n =>
        simp at q
        obtain ⟨A, Fi, B, v, e1, e2, e3, e4⟩ := ih r q
        refine ⟨F0 ++ A, Fi, B, v, by simp [e1], by simpa using e2, e3, fun Z' H' zz tt k t' G s' => ?_⟩
        have z := RepTs.cons (s.keep zz tt fun a ha => k a (by simp [ha])) (e4 Z' H' zz tt (fun a ha => k a (by simp only [List.mem_append] at ha ⊢; rcases ha with h | h; exact .inl (.inr h); exact .inr h)) t' G s')
        simpa using z
theorem RepT.kid {u : T} {v : V} {F : List Addr} (h : RepT K Z H u v F) {n : Nat} {t : T} (q : u.kid n = some t) : ∃ A Fi B x, F = A ++ Fi ++ B ∧ RepT K Z H t x Fi ∧
    ∀ Z' H', (∀ a o, Z a = some o → Z' a = some o) → (∀ a xs, H a = some (.tup xs) → H' a = some (.tup xs)) → (∀ a ∈ A ++ B, ∀ o, H a = some o → H' a = some o) →
      ∀ t' G, RepT K Z' H' t' x G → RepT K Z' H' (u.setKid n t') v (A ++ G ++ B) := by
  cases h with
  | z _ => simp [T.kid] at q
  | tup h r =>
    obtain ⟨A, Fi, B, x, e1, _, e3, e4⟩ := r.lens (show _ = some t from q)
    exact ⟨A, Fi, B, x, e1, e3, fun Z' H' zz tt k t' G s' => .tup (tt _ _ h) (e4 Z' H' zz tt k t' G s')⟩
  | @lst a vs ts F0 h r =>
    obtain ⟨A, Fi, B, x, e1, _, e3, e4⟩ := r.lens (show _ = some t from q)
    refine ⟨a :: A, Fi, B, x, by simp [e1], e3, fun Z' H' zz tt k t' G s' => ?_⟩
    have z := RepT.lst (K := K) (k a (by simp) _ h) (e4 Z' H' zz tt (fun b hb => k b (by simp only [List.cons_append, List.mem_cons]; exact .inr hb)) t' G s')
    simpa [T.setKid] using z
  | @dic a o b ks vs ts F0 h n0 r =>
    obtain ⟨A, Fi, B, x, e1, _, e3, e4⟩ := r.lens (show _ = some t from q)
    refine ⟨a :: A, Fi, B, x, by simp [e1], e3, fun Z' H' zz tt k t' G s' => ?_⟩
    have z := RepT.dic (K := K) (k a (by simp) _ h) n0 (e4 Z' H' zz tt (fun b hb => k b (by simp only [List.cons_append, List.mem_cons]; exact .inr hb)) t' G s')
    simpa [T.setKid] using z
  | @obj a C dx fs ns ts F0 h n0 r =>
    obtain ⟨A, Fi, B, x, e1, _, e3, e4⟩ := r.lens (show _ = some t from q)
    refine ⟨a :: A, Fi, B, x, by simp [e1], e3, fun Z' H' zz tt k t' G s' => ?_⟩
    have z := RepT.obj (K := K) (k a (by simp) _ h) n0 (e4 Z' H' zz tt (fun b hb => k b (by simp only [List.cons_append, List.mem_cons]; exact .inr hb)) t' G s')
    simpa [T.setKid] using z
theorem RepT.at : ∀ {p : List Nat} {u : T} {v : V} {F : List Addr}, RepT K Z H u v F → ∀ {w : T}, u.at p = some w → ∃ A Fi B x, F = A ++ Fi ++ B ∧ RepT K Z H w x Fi ∧
    ∀ Z' H', (∀ a o, Z a = some o → Z' a = some o) → (∀ a xs, H a = some (.tup xs) → H' a = some (.tup xs)) → (∀ a ∈ A ++ B, ∀ o, H a = some o → H' a = some o) →
      ∀ w' G, RepT K Z' H' w' x G → RepT K Z' H' (u.put p w') v (A ++ G ++ B)
  | [], u, v, F, h, w, q => by
    simp only [T.at, Option.some.injEq] at q; subst q
    exact ⟨[], F, [], v, by simp, h, fun Z' H' zz tt k w' G s' => by simpa [T.put] using s'⟩
  | n :: p, u, v, F, h, w, q => by
    unfold T.at at q
    split at q
    · rename_i t ht
      obtain ⟨A, Fi, B, x, e1, e2, e3⟩ := h.kid ht
      obtain ⟨A2, Fi2, B2, x2, f1, f2, f3⟩ := RepT.at e2 q
      refine ⟨A ++ A2, Fi2, B2 ++ B, x2, by rw [e1, f1]; simp, f2, fun Z' H' zz tt k w' G s' => ?_⟩
      have z := f3 Z' H' zz tt (fun a ha => k a (by simp only [List.mem_append] at ha ⊢; rcases ha with h | h; exact .inl (.inr h); exact .inr (.inl h))) w' G s'
      have z2 := e3 Z' H' zz tt (fun a ha => k a (by simp only [List.mem_append] at ha ⊢; rcases ha with h | h; exact .inl (.inl h); exact .inr (.inr h))) _ _ z
      have e : u.put (n :: p) w' = u.setKid n (t.put p w') := by
        rw [T.put]
        simp only [ht]
      rw [e]
      simpa using z2
    · cases q
/-- a place below a slot -/
theorem EnvR.place {env : En} {σ : L2.St} {F : List Addr} (er : EnvR K Z H env σ F) {i : Nat} {u w : T} {p : List Nat} (e : env[i]? = some (some u)) (q : u.at p = some w) : ∃ A Fi B x, F = A ++ Fi ++ B ∧ RepT K Z H w x Fi ∧
    ∀ Z' H', (∀ a o, Z a = some o → Z' a = some o) → (∀ a xs, H a = some (.tup xs) → H' a = some (.tup xs)) → (∀ a ∈ A ++ B, ∀ o, H a = some o → H' a = some o) →
      ∀ w' G, RepT K Z' H' w' x G → EnvR K Z' H' (env.set i (some (u.put p w'))) σ (A ++ G ++ B) := by
  obtain ⟨A, Fi, B, o, e1, e2, e3, e4⟩ := er.lens e
  cases e3 with
  | @so _ v _ r =>
    obtain ⟨A2, Fi2, B2, x2, f1, f2, f3⟩ := r.at q
    refine ⟨A ++ A2, Fi2, B2 ++ B, x2, by rw [e1, f1]; simp, f2, fun Z' H' zz tt k w' G s' => ?_⟩
    have z := f3 Z' H' zz tt (fun a ha => k a (by simp only [List.mem_append] at ha ⊢; rcases ha with h | h; exact .inl (.inr h); exact .inr (.inl h))) w' G s'
    have z2 := e4 Z' H' zz tt (fun a ha => k a (by simp only [List.mem_append] at ha ⊢; rcases ha with h | h; exact .inl (.inl h); exact .inr (.inr h))) (some (u.put p w')) (some v) _ (.so z)
    rw [set_same e2] at z2
    simpa using z2
end
end DL

/-! DL20: a node below a slot is written; attributes; constructors. -/
namespace DL
open PySem PySem.Spec PyProof.Rows L2
/-- an owned node at a, children's footprint Ft, is written: o' at a, children's footprint Ft' out of Ft and of what stands beside (G) -/
theorem node_upd {Z H : Hp} {A Ft B G : List Addr} {a : Addr} {o' : HO} (ok : Ok Z H ((A ++ (a :: Ft) ++ B) ++ G)) (mo : Mut (some o')) (nt : ∀ xs, ¬ H a = some (.tup xs)) :
    (∀ c xs, H c = some (.tup xs) → (upd H a o') c = some (.tup xs)) ∧ (∀ b ∈ A ++ B, ∀ o, H b = some o → upd H a o' b = some o) ∧ (∀ b ∈ Ft ++ G, b ≠ a) ∧
    ∀ Ft', (∀ b ∈ Ft', b ∈ Ft ∨ b ∈ G) → Ft'.Nodup → Ext Z H ((A ++ (a :: Ft) ++ B) ++ G) Z (upd H a o') (A ++ (a :: Ft') ++ B) ∧ Ok Z (upd H a o') (A ++ (a :: Ft') ++ B) := by
  have nd : (A ++ (a :: Ft) ++ B ++ G).Nodup := by simpa using ok.nod
  simp only [List.append_assoc, List.nodup_append, List.mem_append, List.cons_append, List.nodup_cons, List.mem_cons] at nd
  obtain ⟨ndA, ⟨na, ndT, ndBG, dT⟩, dA⟩ := nd
  obtain ⟨ndB, ndG, dB⟩ := ndBG
  refine ⟨fun c xs h => ?_, fun b hb o h => ?_, fun b hb e => ?_, fun Ft' hs nd' => ?_⟩
  · have hc : c ≠ a := fun z => nt xs (by rw [← z]; exact h)
    rw [upd_ne hc]; exact h
  · have hne : b ≠ a := fun z => by
      subst z
      rcases List.mem_append.mp hb with h | h
      · exact dA b h b (.inl rfl) rfl
      · exact na (.inr (.inl h))
    rw [upd_ne hne]; exact h
  · subst e
    rcases List.mem_append.mp hb with h | h
    · exact na (.inl h)
    · exact na (.inr (.inr h))
  · have naF : ∀ b ∈ Ft', b ≠ a := fun b hb e => by
      subst e
      rcases hs b hb with h | h
      · exact na (.inl h)
      · exact na (.inr (.inr h))
    have memF : ∀ b ∈ A ++ (a :: Ft') ++ B, b ∈ (A ++ (a :: Ft) ++ B) ++ G := fun b hb => by
      simp only [List.append_assoc, List.mem_append, List.cons_append, List.mem_cons] at hb ⊢
      rcases hb with h | h | h | h
      · exact .inl h
      · exact .inr (.inl h)
      · rcases hs b h with h | h
        · exact .inr (.inr (.inl h))
        · exact .inr (.inr (.inr (.inr h)))
      · exact .inr (.inr (.inr (.inl h)))
    refine ⟨⟨fun _ _ h => h, fun c o h n => ?_, fun b hb => .inl (memF b hb), fun _ _ h => .inl h⟩, ⟨fun c o h => ?_, ?_, fun b hb => ok.dis b (memF b hb), fun b hb => ?_⟩⟩
    · have hc : c ≠ a := fun z => n (by simp [z])
      rw [upd_ne hc]; exact h
    · have hc : c ≠ a := fun z => by
        subst z
        rw [ok.dis c (by simp)] at h; cases h
      rw [upd_ne hc]; exact ok.sub c o h
    · simp only [List.append_assoc, List.nodup_append, List.mem_append, List.cons_append, List.nodup_cons, List.mem_cons]
      refine ⟨ndA, ⟨fun h => ?_, nd', ndB, fun b hb c hc e => ?_⟩, fun b hb c hc e => ?_⟩
      · rcases h with h | h
        · exact naF a h rfl
        · exact na (.inr (.inl h))
      · subst e
        rcases hs b hb with h' | h'
        · exact dT b h' b (.inl hc) rfl
        · exact dB b hc b h' rfl
      · subst e
        rcases hc with h | h | h
        · exact dA b hb b (.inl h) rfl
        · rcases hs b h with h | h
          · exact dA b hb b (.inr (.inl h)) rfl
          · exact dA b hb b (.inr (.inr (.inr h))) rfl
        · exact dA b hb b (.inr (.inr (.inl h))) rfl
    · by_cases hba : b = a
      · subst hba; rw [upd_same]; exact mo
      · rw [upd_ne hba]; exact ok.mu b (memF b hb)
/-! ### attributes -/
/-- a class of the text and its attributes -/
structure ClsAt (K : PySem.W.Frag) (C : Addr) (fs : List Str) : Prop where
  cls : Cls K C
  na : ∀ f ∈ fs, NoAttr K C f
def lkF {α : Type} (f : Str) : List Str → List α → Option α
  | n :: ns, x :: xs => if f == n then some x else lkF f ns xs
  | _, _ => none
def fldT (C : Addr) (f : Str) : T → Option Opd
  | .z (.obj C' ns ds) => if C' = C then (lkF f ns ds).map fun d => .t (.z d) else none
  | .obj C' ns ts => if C' = C then (lkF f ns ts).map itT else none
  | _ => none
def fldD (C : Addr) (f : Str) : D → Option Opd
  | .obj C' ns ds => if C' = C then (lkF f ns ds).map itD else none
  | _ => none
def oFld (C : Addr) (f : Str) (env : En) : List Opd → Option Opd
  | [.t u] => fldT C f u
  | [.k d] => fldD C f d
  | [.s i] => match env[i]? with
    | some (some u) => fldT C f u
    | _ => none
  | _ => none
section
variable {K : PySem.W.Frag} {Z H : Hp}
theorem lkF_reps {f : Str} : ∀ {fs : List (Str × V)} {ds : List D} {d : D}, Reps K Z H ds (fs.map (·.2)) → lkF f (fs.map (·.1)) ds = some d → ∃ v, fs.lookup f = some v ∧ Rep K Z H d v
  | [], _, _, _, e => by simp [lkF] at e
  | (n, v) :: fs, ds, d, r, e => by
    cases r with
    | @cons d0 _ ds0 _ r0 r1 =>
      simp only [List.map_cons, lkF] at e
      rw [List.lookup_cons]
      cases hf : (f == n)
      · rw [hf] at e
        exact lkF_reps r1 (by simpa using e)
      · rw [hf] at e
        simp at e; subst e
        exact ⟨v, rfl, r0⟩
theorem lkF_repts {f : Str} : ∀ {fs : List (Str × V)} {ts : List T} {t : T} {F : List Addr}, RepTs K Z H ts (fs.map (·.2)) F → lkF f (fs.map (·.1)) ts = some t → ∃ v G, fs.lookup f = some v ∧ RepT K Z H t v G
  | [], _, _, _, _, e => by simp [lkF] at e
  | (n, v) :: fs, ts, t, _, r, e => by
    cases r with
    | @cons t0 _ ts0 _ F0 G0 r0 r1 =>
      simp only [List.map_cons, lkF] at e
      rw [List.lookup_cons]
      cases hf : (f == n)
      · rw [hf] at e
        exact lkF_repts r1 (by simpa using e)
      · rw [hf] at e
        simp at e; subst e
        exact ⟨v, _, rfl, r0⟩
def rFld (K : PySem.W.Frag) (f : Str) (x : V) (H : Hp) (Q : VK) : Prop := ∃ a C dx fs v, x = .ref a ∧ H a = some (.ins C dx fs) ∧ Cls K C ∧ NoAttr K C f ∧ fs.lookup f = some v ∧ Q v H
theorem fldT_ok {σ : L2.St} {C : Addr} {f : Str} {u : T} {v : V} {G : List Addr} {o' : Opd} {Q : VK} (c : Cls K C) (n : NoAttr K C f) (sub : ∀ a o, Z a = some o → H a = some o) (r : RepT K Z H u v G) (e : fldT C f u = some o') (hq : ∀ v, OpdR K Z H σ o' v [] → Q v H) : rFld K f v H Q := by
  have itT_ok : ∀ {t : T} {v : V} {G : List Addr}, RepT K Z H t v G → OpdR K Z H σ (itT t) v [] := fun {t v G} r => by
    cases r with
    | z r => exact .t (.z r)
    | tup h r => exact .k (RepT.look (.tup h r) sub)
    | lst h r => exact .k (RepT.look (.lst h r) sub)
    | dic h n r => exact .k (RepT.look (.dic h n r) sub)
    | obj h n r => exact .k (RepT.look (.obj h n r) sub)
  unfold fldT at e
  split at e
  · split at e
    · rename_i hc
      subst hc
      cases r with
      | z r =>
        cases r with
        | obj h hn r =>
          subst hn
          obtain ⟨d, e1, e2⟩ := Option.map_eq_some_iff.mp e
          subst e2
          obtain ⟨w, h1, h2⟩ := lkF_reps r e1
          exact ⟨_, _, _, _, w, rfl, sub _ _ h, c, n, h1, hq w (.t (.z h2))⟩
    · cases e
  · split at e
    · rename_i hc
      subst hc
      cases r with
      | obj h hn r =>
        subst hn
        obtain ⟨t, e1, e2⟩ := Option.map_eq_some_iff.mp e
        subst e2
        obtain ⟨w, G, h1, h2⟩ := lkF_repts r e1
        exact ⟨_, _, _, _, w, rfl, h, c, n, h1, hq w (itT_ok h2)⟩
    · cases e
  · cases e
theorem fldD_ok {σ : L2.St} {C : Addr} {f : Str} {d : D} {v : V} {o' : Opd} {Q : VK} (c : Cls K C) (n : NoAttr K C f) (r : Rep K H H d v) (e : fldD C f d = some o') (hq : ∀ v, OpdR K Z H σ o' v [] → Q v H) : rFld K f v H Q := by
  unfold fldD at e
  split at e
  · split at e
    · rename_i hc
      subst hc
      cases r with
      | obj h hn r =>
        subst hn
        obtain ⟨d, e1, e2⟩ := Option.map_eq_some_iff.mp e
        subst e2
        obtain ⟨w, h1, h2⟩ := lkF_reps r e1
        exact ⟨_, _, _, _, w, rfl, h, c, n, h1, hq w (itD_ok h2)⟩
    · cases e
  · cases e
theorem link_fld {C : Addr} {f : Str} (c : Cls K C) (n : NoAttr K C f) : Link K (oFld C f) (fun xs H Q => rFld K f (xs.getD 0 .non) H Q) := by
  intro σ Z H F G env os xs o' Q ok er or ho hq
  have hq' : ∀ v, OpdR K Z H σ o' v [] → Q v H := fun v r => hq v H [] (fun _ _ z => z) (fun _ z => nomatch z) List.nodup_nil r
  unfold oFld at ho
  split at ho
  · obtain ⟨x, A, rfl, ra⟩ := or.one
    cases ra with
    | t r => exact fldT_ok c n ok.sub r ho hq'
  · obtain ⟨x, A, rfl, ra⟩ := or.one
    cases ra with
    | k r => exact fldD_ok c n r ho hq'
  · split at ho
    · rename_i i u hu
      obtain ⟨x, A, rfl, ra⟩ := or.one
      cases ra with
      | s h =>
        obtain ⟨v', Fi, h1, h2, _⟩ := er.at hu
        rw [h] at h1; cases h1
        exact fldT_ok c n ok.sub h2 ho hq'
    · cases ho
  · cases ho
end
theorem pq_attr {X : Cx} {W : WX} {e : Expr} {pos : Pos} {p : Bool} {f : Str} {fa : EM Opd} {C : Addr} {fs : List Str} (T : ClsAt X.K C fs) (hf : f ∈ fs) (he : PQ X W p e fa) (hb : attributeBase e f X.env (eval e X.env) = eval e X.env := by rfl) : PQ X W p (.Attribute e f pos) (sO (oFld C f) (sCons true fa sNil)) :=
  (pe_fld he hb).imp fun _ _ _ h => one_ok (o_ok (link_fld T.cls (T.na f hf)) h)
end DL

/-! DL21: self.f = e; constructors. -/
namespace DL
open PySem PySem.Spec PyProof.Rows L2
def putK (f : Str) : List Str → List Str
  | [] => [f]
  | g :: r => if g = f then g :: r else g :: putK f r
def putX (f : Str) (t : T) : List Str → List T → List T
  | g :: r, x :: xs => if g = f then t :: xs else x :: putX f t r xs
  | _, _ => [t]
theorem putF_keys (f : Str) (y : V) : ∀ fs : List (Str × V), (putF f y fs).map (·.1) = putK f (fs.map (·.1))
  | [] => rfl
  | (g, x) :: r => by
    simp only [putF, List.map_cons, putK]
    split
    · rfl
    · simp only [List.map_cons, putF_keys f y r]
theorem putF_reps {K : PySem.W.Frag} {Z H : Hp} {f : Str} {t : T} {y : V} {G : List Addr} (rt : RepT K Z H t y G) : ∀ {fs : List (Str × V)} {ts : List T} {F : List Addr}, RepTs K Z H ts (fs.map (·.2)) F →
    ∃ F', RepTs K Z H (putX f t (fs.map (·.1)) ts) ((putF f y fs).map (·.2)) F' ∧ (∀ b ∈ F', b ∈ F ∨ b ∈ G) ∧ ((F ++ G).Nodup → F'.Nodup)
  | [], ts, F, r => by
    cases r
    exact ⟨G ++ [], .cons rt .nil, fun b hb => .inr (by simpa using hb), fun h => by simpa using h⟩
  | (g, x) :: fs, ts, F, r => by
    cases r with
    | @cons t0 _ ts0 _ F0 F1 r0 r1 =>
      simp only [putF, List.map_cons, putX]
      split
      · refine ⟨G ++ F1, .cons rt r1, fun b hb => ?_, fun h => ?_⟩
        · rcases List.mem_append.mp hb with h | h
          · exact .inr h
          · exact .inl (List.mem_append_right _ h)
        · rw [List.append_assoc] at h
          have h2 := (List.nodup_append.mp h).2.1
          exact (List.perm_append_comm.nodup_iff).mp h2
      · obtain ⟨F', r', hm, hn⟩ := putF_reps rt r1
        refine ⟨F0 ++ F', .cons r0 r', fun b hb => ?_, fun h => ?_⟩
        · rcases List.mem_append.mp hb with h | h
          · exact .inl (List.mem_append_left _ h)
          · rcases hm b h with h | h
            · exact .inl (List.mem_append_right _ h)
            · exact .inr h
        · rw [List.append_assoc] at h
          obtain ⟨h1, h2, h3⟩ := List.nodup_append.mp h
          exact List.nodup_append.mpr ⟨h1, hn h2, fun b hb c hc e => h3 b hb c (by
            rcases hm c hc with z | z
            · exact List.mem_append_left _ z
            · exact List.mem_append_right _ z) e⟩
def sFldS (C : Addr) (i : Nat) (f : Str) (fe : EM Opd) : SM := fun env => match fe env with
  | none => none
  | some (.ex x e) => some (.ex x e)
  | some (.ok o e) => match o.take e with
    | none => none
    | some (t, e') => match e'[i]? with
      | some (some (.obj C' ns ts)) => if C' = C ∧ ns.length < 1000 then some (.nx (e'.set i (some (.obj C (putK f ns) (putX f t ns ts))))) else none
      | _ => none
section
variable {K : PySem.W.Frag} {W : WX} {P : List Nat} {D : Ends} {σ : L2.St} {H : Hp} {fe : EM Opd} {i : Nat} {C : Addr} {f : Str}
theorem fldS_ok (c : Cls K C) (n : NoAttr K C f) (q : tS K W P (sFldS C i f fe) D σ H) : sFld K (tVar i) (tQ K W false fe) f D σ H := by
  obtain ⟨Z, env, F, ok, er, o, ho, post⟩ := q
  unfold sFldS at ho
  split at ho
  · cases ho
  · rename_i x e hf
    cases ho
    exact ⟨Z, env, F, ok, er, _, hf, fun d H' Z' F' a b c f => post d σ H' Z' F' a b c f Pin.refl⟩
  · rename_i o1 e hf
    split at ho
    · cases ho
    · rename_i t e' ht
      split at ho
      · rename_i C' ns ts he
        split at ho
        · rename_i hc
          cases ho
          obtain ⟨hc, hl⟩ := hc
          subst hc
          refine ⟨Z, env, F, ok, er, _, hf, fun y H1 Z1 F1 G1 x1 ok1 er1 or1 _ => ?_⟩
          obtain ⟨Z2, F2, G2, x2, ok2, er2, r2⟩ := take_ok ok1 er1 or1 ht
          obtain ⟨A, Fi, B, w, e1, e2, e3, e4⟩ := er2.lens he
          cases e3 with
          | @so _ v _ r4 =>
            cases r4 with
            | @obj a _ dx fs _ _ Ft hh hn rr =>
              subst hn
              subst e1
              have nt : ∀ xs, ¬ H1 a = some (.tup xs) := fun xs h => by
                rw [hh] at h; cases h
              obtain ⟨tt, kp, ne, fin⟩ := node_upd (o' := .ins C' dx (putF f y fs)) ok2 trivial nt
              have ndTG : (Ft ++ G2).Nodup := by
                have nd := ok2.nod
                simp only [List.append_assoc, List.nodup_append, List.mem_append, List.cons_append, List.nodup_cons, List.mem_cons] at nd
                obtain ⟨_, ⟨_, ndT, ndBG, dT⟩, _⟩ := nd
                exact List.nodup_append.mpr ⟨ndT, ndBG.2.1, fun b hb c hc e => dT b hb c (.inr hc) e⟩
              obtain ⟨F', r', hm, hnd⟩ := putF_reps (f := f) r2 rr
              obtain ⟨x5, ok5⟩ := fin F' hm (hnd ndTG)
              have r5 := r'.keep (Z' := Z2) (H' := upd H1 a (.ins C' dx (putF f y fs))) (fun _ _ h => h) tt fun b hb o h => by
                rw [upd_ne (ne b (by
                  rcases hm b hb with z | z
                  · exact List.mem_append_left _ z
                  · exact List.mem_append_right _ z))]
                exact h
              have er5 := e4 Z2 (upd H1 a (.ins C' dx (putF f y fs))) (fun _ _ h => h) tt kp (some (.obj C' (putK f (fs.map (·.1))) (putX f t (fs.map (·.1)) ts))) (some (.ref a)) (a :: F') (.so (.obj upd_same (putF_keys f y fs) r5))
              rw [set_same e2] at er5
              refine ⟨.ref a, e2, a, C', dx, fs, rfl, hh, c, n, by simpa using hl, ?_⟩
              exact post σ _ Z2 _ ((x1.trans x2).trans x5) ok5 er5 Pin.refl
        · cases ho
      · cases ho
end
theorem psq_fldS {X : Cx} {W : WX} {P : List Nat} {x : Str} {p1 pos' pos : Pos} {value : Expr} {p : Bool} {f : Str} {fe : EM Opd} {i : Nat} {C : Addr} {fs : List Str} (T : ClsAt X.K C fs) (hf : f ∈ fs) (hx : PE X (.Name x p1) (tVar i)) (he : PQ X W p value fe) (hs : swapsWith value (some (.Attribute (.Name x p1) f pos')) pos.line X.env = pure false := by rfl) :
    PSQ X W P (.Assign [.Attribute (.Name x p1) f pos'] value pos) (sFldS C i f fe) :=
  (ps_fld hx (he.imp fun _ _ _ z => tQ_any z : PQ X W false value fe) hs).imp fun D σ H q => fldS_ok T.cls (T.na f hf) q
end DL

/-! DL22: constructors. -/
namespace DL
open PySem PySem.Spec PyProof.Rows L2
section
variable {X : Cx} {CX : CXT} {k : Nat} {f C : Addr} {fd : FuncData} {ps : List Str} {sp : Sp} {E : XK} {x : Str} {p pos : Pos} {e : Expr} {es : List Expr} {t : TA}
theorem make_at {pins : List (Addr × Obj)} {σ : L2.St} {H : Hp} {s : Shared} {Q : VK} {us : List Value} {vs : List V} (M : Mk X.K C f)
    (F : FnOk X.prog X.w X.K X.mg X.base CX k f fd ps sp) (hr : Room (k + 1) X.A) (hb : Binds X.K fd ps []) (px : PassesAt CX X σ E) (I : Inv X pins σ H s) (r : Vals vs us)
    (h : ∀ x dx, H x = none → H dx = none → dx ≠ x → sp (.ref x :: vs) (upd (upd H dx (.own x)) x (.ins C dx [])) (fun v H2 => v = .non ∧ Q (.ref x) H2) E) :
    wpAny (model X.prog X.w) X.A (call (.ref C) us) (EP X pins σ Q) X.xe s := by
  have hq := h (s.heap.objs.size + 1) s.heap.objs.size
    (I.hok.fresh (Nat.le_succ _)) (I.hok.fresh (Nat.le_refl _))
    (Nat.ne_of_lt (Nat.lt_succ_self _))
  have J := Inv.made (C := C) I
  have r2 : Vals (V.ref (s.heap.objs.size + 1) :: vs)
    (Value.ref (s.heap.objs.size + 1) :: us) := .cons rfl r
  have b := hb _ (Value.ref (s.heap.objs.size + 1) :: us) J.kIn
    (by rw [List.append_nil]; exact r2.length.symm.trans (F.len _ _ _ _ hq))
  rw [List.append_nil] at b
  apply wpAny_call
  apply make_map (f := f) I.kIn M.makes M.init (beq_iff_eq.mp M.fn)
  refine codeAny_mono
    (F.run _ X.stack _ _ ⟨Value.ref (s.heap.objs.size + 1) :: us, []⟩
      (Value.ref (s.heap.objs.size + 1) :: us) _ _ E (hr.make C us []) (J.env0.make C us []) b r2 hq) ?_
  intro res s' g
  match res, g with
  | .error er, g => exact px pins _ _ er s' J g
  | .ok (.ret u), g =>
    obtain ⟨v, H', I3, rv, ev, q3⟩ := J.after g
    subst ev
    exact ⟨rv, V.ref (s.heap.objs.size + 1), H', I3, rfl, q3⟩
def tMakeS (C : Addr) (sp : Sp) (E : L2.St → XK) (t : TA) : TE := fun σ H Q => t σ H fun vs H1 => ∀ x dx, H1 x = none → H1 dx = none → dx ≠ x → sp (.ref x :: vs) (upd (upd H1 dx (.own x)) x (.ins C dx [])) (fun v H2 => v = .non ∧ Q (.ref x) H2) (E σ)
/-- C(e, ..): an exception leaves as the slots stand -/
theorem pe_makeS {E : L2.St → XK} (M : Mk X.K C f) (F : FnOk X.prog X.w X.K X.mg X.base CX k f fd ps sp) (hr : Room (k + 1) X.A) (hg : Gl X x) (hm : X.mg x = some (.ref C)) (hb : Binds X.K fd ps []) (px : ∀ σ, PassesAt CX X σ (E σ)) (ha : PA X (e :: es) t)
    (nd : (x == ("__debug__" : Str)) = false) (hst : starEach (e :: es) X.env = (false, eval e X.env) :: starEach es X.env) (hpl : (backTo pos (starEach es X.env)).any (·.1) = false) : PE X (.Call (.Name x p) (e :: es) [] pos) (tMakeS C sp E t) where
  run := fun pins s σ H Q I h => by
    apply wpAny_Call_Name_kw
    apply ld_glob I hg hm _ nd
    exact PySem.W.callWith_K (h₀ := X.base)
      I.ok.mod.kin M.kp
      (thn (ha.run pos pins s σ H _ I h)
        fun us s1 ⟨vs, H1, J, r, q⟩ => ⟨J.kIn, make_at M F hr hb (px σ) J r q⟩) hst hpl
end
def sMake (C : Addr) (n : Nat) (Fn : FSem) (fr : EM (List Opd)) : EM Opd := fun env => match fr env with
  | none => none
  | some (.ex x e) => some (.ex x e)
  | some (.ok os e) => match takeIO [] os e with
    | none => none
    | some (ts, e1) => if ts.length = n then match Fn (.obj C [] [] :: ts) with
      | some (.rt (.z .non) [t]) => some (.ok (.t t) e1)
      | some (.ex x [_]) => some (.ex x e1)
      | _ => none
      else none
section
variable {K : PySem.W.Frag} {W : WX} {σ : L2.St}
theorem make_ok {H : Hp} {n : Nat} {C : Addr} {Fn : FSem} {fr : EM (List Opd)} {Q : VK} (h : tQ K W false (sMake C n Fn fr) σ H Q) : tMakeS C (spF K (n + 1) [true] Fn) (WE W) (tAQ K W false fr) σ H Q := by
  obtain ⟨Z, env, F, ok, er, r, hr, post⟩ := h
  unfold sMake at hr
  split at hr
  · cases hr
  · rename_i x e hf
    cases hr
    exact ⟨Z, env, F, ok, er, _, hf, post⟩
  · rename_i os e hf
    split at hr
    · cases hr
    · rename_i ts e1 ht
      split at hr
      · rename_i hn
        refine ⟨Z, env, F, ok, er, _, hf, fun vs H1 Z1 F1 G1 x1 ok1 er1 or1 _ a dx ha hd hne => ?_⟩
        obtain ⟨Z2, F2, G2, x2, ok2, er2, r2⟩ := takeIO_ok ok1 er1 or1 ht
        have g : Grow H1 (upd (upd H1 dx (.own a)) a (.ins C dx [])) := fun b o q => by
          rw [upd_ne (fun z => by rw [z, ha] at q; cases q), upd_ne (fun z => by rw [z, hd] at q; cases q)]
          exact q
        have fr1 : ∀ b ∈ [a], H1 b = none := fun b hb => by rw [List.mem_singleton.mp hb]; exact ha
        have ok3 : Ok Z2 (upd (upd H1 dx (.own a)) a (.ins C dx [])) ((F2 ++ G2) ++ [a]) := ok2.grown g fr1 (by simp) fun b hb => by
          rw [List.mem_singleton.mp hb, upd_same]; trivial
        have pm : ((F2 ++ G2) ++ [a]).Perm (([a] ++ G2) ++ F2) := by
          have p1 : ((F2 ++ G2) ++ [a]).Perm ([a] ++ (F2 ++ G2)) := List.perm_append_comm
          have p2 : (F2 ++ G2).Perm (G2 ++ F2) := List.perm_append_comm
          rw [List.append_assoc [a] G2 F2]
          exact p1.trans (List.Perm.append_left [a] p2)
        have okp := ok3.perm pm
        have x3 : Ext Z H F Z2 (upd (upd H1 dx (.own a)) a (.ins C dx [])) (([a] ++ G2) ++ F2) := ((x1.trans x2).trans (Ext.grown g fr1)).sub fun b hb => pm.mem_iff.mpr hb
        have ro : RepT K Z2 (upd (upd H1 dx (.own a)) a (.ins C dx [])) (.obj C [] []) (.ref a) [a] := RepT.obj (fs := []) upd_same rfl .nil
        have rs : RepTs K Z2 (upd (upd H1 dx (.own a)) a (.ins C dx [])) (.obj C [] [] :: ts) (.ref a :: vs) ([a] ++ G2) := .cons ro (r2.grown g)
        refine ⟨by rw [List.length_cons, ← r2.length, hn], Z2, _, _, okp.left, rs, ?_⟩
        have er3 := er2.grown g
        split at hr
        · rename_i t hfn
          cases hr
          refine ⟨_, hfn, fun v H' Z' F' G x4 ok4 rf rt => ?_⟩
          cases rt with
          | z rv =>
            cases rv
            refine ⟨rfl, ?_⟩
            simp only [pick] at rf
            cases rf with
            | @cons _ _ _ _ Fa Fb ra rb =>
              cases rb
              simp only [List.append_nil] at x4 ok4
              have okb : Ok Z' H' (Fa ++ F2) := Ok.beside x4 ok4 okp
              have pm2 : (Fa ++ F2).Perm (F2 ++ Fa) := List.perm_append_comm
              refine post (.ref a) H' Z' F2 Fa ?_ (okb.perm pm2) (er3.frame x4 okp) (.t ra) fun z => nomatch z
              exact (x3.trans x4.wide).sub fun b hb => pm2.mem_iff.mpr hb
        · rename_i y t hfn
          cases hr
          refine ⟨_, hfn, fun d H' Z' F' x4 ok4 rf xr => ?_⟩
          have okb : Ok Z' H' (F' ++ F2) := Ok.beside x4 ok4 okp
          exact post d H' Z' F2 ((x3.trans x4.wide).sub fun b hb => List.mem_append_right _ hb) okb.right (er3.frame x4 okp) xr
        · cases hr
      · cases hr
end
theorem pq_make {X : Cx} {W : WX} {k n : Nat} {f C : Addr} {fd : FuncData} {ps : List Str} {Fn : FSem} {x : Str} {p pos : Pos} {e : Expr} {es : List Expr} {fr : EM (List Opd)} {pp : Bool} (tk : Takes X W) (M : Mk X.K C f) (F : FnOk X.prog X.w X.K X.mg X.base (L2.CX X.prog X.w) k f fd ps (spF X.K (n + 1) [true] Fn)) (hr : Room (k + 1) X.A) (hg : Gl X x) (hm : X.mg x = some (.ref C)) (hb : Binds X.K fd ps []) (ha : PAQ X W pp (e :: es) fr)
    (hdb : (x == ("__debug__" : Str)) = false := by decide) (he : starEach (e :: es) X.env = (false, eval e X.env) :: starEach es X.env := by rfl) (hpl : (backTo pos (starEach es X.env)).any (·.1) = false := by rfl) :
    PQ X W false (.Call (.Name x p) (e :: es) [] pos) (sMake C n Fn fr) :=
  (pe_makeS M F hr hg hm hb (fun σ => passAt tk σ) (ha.imp fun _ _ _ z => tAQ_any z : PAQ X W false (e :: es) fr) hdb he hpl).imp fun _ _ _ h => make_ok h
end DL

/-! DL23: in, not in; max, min, sum, abs, sorted of ints; x += e. -/
namespace DL
open PySem PySem.Spec PyProof.Rows L2
/-! ### in -/
@[simp] def gIn : List D → Option D
  | [x, .lst ds] => if (x.shd 60 && (D.lst ds).shd 60) = true then some (.bl (ds.any fun z => deq z x)) else none
  | [.int i, .tup ds] => match dInts ds with
    | some ns => some (.bl (decide (i ∈ ns)))
    | none => none
  | _ => none
@[simp] def gNotIn : List D → Option D
  | [x, .lst ds] => if (x.shd 60 && (D.lst ds).shd 60) = true then some (.bl (!ds.any fun z => deq z x)) else none
  | [.int i, .tup ds] => match dInts ds with
    | some ns => some (.bl (!decide (i ∈ ns)))
    | none => none
  | _ => none
theorem any_py (x : D) : ∀ ds : List D, ((D.pys ds).any fun z => PyData.eqv z x.py) = ds.any fun z => deq z x
  | [] => rfl
  | d :: ds => by
    simp only [D.pys, List.any_cons, any_py x ds]
    rfl
theorem reps_ints_eq {K : PySem.W.Frag} {Z H : Hp} : ∀ {ds : List D} {ns : List Int} {vs : List V}, Reps K Z H ds vs → dInts ds = some ns → vs = ns.map V.int
  | [], ns, _, r, e => by
    simp only [dInts, Option.some.injEq] at e; subst e
    cases r; rfl
  | .int i :: ds, ns, _, r, e => by
    simp only [dInts] at e
    split at e
    · rename_i ns' e'
      simp only [Option.some.injEq] at e; subst e
      cases r with
      | cons a b =>
        have := a.v_int
        subst this
        rw [reps_ints_eq b e']
        rfl
    · cases e
  | .non :: _, _, _, _, e => by simp [dInts] at e
  | .bl _ :: _, _, _, _, e => by simp [dInts] at e
  | .str _ :: _, _, _, _, e => by simp [dInts] at e
  | .ref _ :: _, _, _, _, e => by simp [dInts] at e
  | .ty _ :: _, _, _, _, e => by simp [dInts] at e
  | .tup _ :: _, _, _, _, e => by simp [dInts] at e
  | .lst _ :: _, _, _, _, e => by simp [dInts] at e
  | .kls _ :: _, _, _, _, e => by simp [dInts] at e
  | .dic _ _ _ :: _, _, _, _, e => by simp [dInts] at e
  | .obj _ _ _ :: _, _, _, _, e => by simp [dInts] at e
  | .exv _ _ _ _ _ :: _, _, _, _, e => by simp [dInts] at e
theorem inV_ints (i : Int) (ns : List Int) : inV (.int i) (ns.map V.int) = decide (i ∈ ns) := by
  unfold inV
  induction ns with
  | nil => rfl
  | cons n ns ih =>
    rw [List.map_cons, List.any_cons, ih]
    have : eqV (.int n) (.int i) = decide (i = n) := by
      show (n == i) = _
      rw [Bool.eq_iff_iff, beq_iff_eq, decide_eq_true_eq]
      exact eq_comm
    rw [this]
    rw [Bool.eq_iff_iff, Bool.or_eq_true, decide_eq_true_eq, decide_eq_true_eq, decide_eq_true_eq, List.mem_cons]
theorem flat_ints (ns : List Int) : (ns.map V.int).all flatV = true := by simp [flatV]
theorem link_in {K : PySem.W.Frag} : Link K (oS gIn) (R2L fun x y H Q => rInD K x y H Q ∨ rIn K false x y H Q) := by
  refine link_S fun H xs ds d Q r e q => ?_
  unfold gIn at e
  split at e
  · split at e
    · rename_i h
      simp only [Bool.and_eq_true] at h
      cases e
      obtain ⟨x, y, rfl, r1, r2⟩ := r.two
      refine .inl ⟨_, _, r1.dp h.1, r2.dp h.2, shd_shaped h.1, shd_shaped h.2, ?_⟩
      rw [any_py]
      exact q
    · cases e
  · split at e
    · rename_i i ds ns hn
      cases e
      obtain ⟨x, y, rfl, r1, r2⟩ := r.two
      have := r1.v_int; subst this
      cases r2 with
      | tup h r2 =>
        rw [reps_ints_eq r2 hn] at h
        refine .inr ⟨_, _, rfl, .inr (SqT.of h), rfl, flat_ints ns, ?_⟩
        show Q (.bl (inV (.int _) (ns.map V.int))) H
        rw [inV_ints]
        exact q
    · cases e
  · cases e
theorem link_notIn {K : PySem.W.Frag} : Link K (oS gNotIn) (R2L fun x y H Q => rNotInD K x y H Q ∨ rIn K true x y H Q) := by
  refine link_S fun H xs ds d Q r e q => ?_
  unfold gNotIn at e
  split at e
  · split at e
    · rename_i h
      simp only [Bool.and_eq_true] at h
      cases e
      obtain ⟨x, y, rfl, r1, r2⟩ := r.two
      refine .inl ⟨_, _, r1.dp h.1, r2.dp h.2, shd_shaped h.1, shd_shaped h.2, ?_⟩
      rw [any_py]
      exact q
    · cases e
  · split at e
    · rename_i i ds ns hn
      cases e
      obtain ⟨x, y, rfl, r1, r2⟩ := r.two
      have := r1.v_int; subst this
      cases r2 with
      | tup h r2 =>
        rw [reps_ints_eq r2 hn] at h
        refine .inr ⟨_, _, rfl, .inr (SqT.of h), rfl, flat_ints ns, ?_⟩
        show Q (.bl (!inV (.int _) (ns.map V.int))) H
        rw [inV_ints]
        exact q
    · cases e
  · cases e
/-! ### of a list of ints -/
def mxL : List Int → Int
  | [] => 0
  | [x] => x
  | x :: xs => if mxL xs ≤ x then x else mxL xs
def mnL : List Int → Int
  | [] => 0
  | [x] => x
  | x :: xs => if x ≤ mnL xs then x else mnL xs
theorem mxL_mem : ∀ {ns : List Int}, ns ≠ [] → mxL ns ∈ ns ∧ ∀ y ∈ ns, y ≤ mxL ns
  | [x], _ => by simp [mxL]
  | x :: y :: xs, _ => by
    obtain ⟨h1, h2⟩ := mxL_mem (ns := y :: xs) (by simp)
    rw [mxL]
    split
    · rename_i h
      refine ⟨List.mem_cons_self, fun z hz => ?_⟩
      rcases List.mem_cons.mp hz with rfl | hz
      · exact Int.le_refl _
      · exact Int.le_trans (h2 z hz) h
    · rename_i h
      refine ⟨List.mem_cons_of_mem _ h1, fun z hz => ?_⟩
      rcases List.mem_cons.mp hz with rfl | hz
      · omega
      · exact h2 z hz
    · intro e; cases e
theorem mnL_mem : ∀ {ns : List Int}, ns ≠ [] → mnL ns ∈ ns ∧ ∀ y ∈ ns, mnL ns ≤ y
  | [x], _ => by simp [mnL]
  | x :: y :: xs, _ => by
    obtain ⟨h1, h2⟩ := mnL_mem (ns := y :: xs) (by simp)
    rw [mnL]
    split
    · rename_i h
      refine ⟨List.mem_cons_self, fun z hz => ?_⟩
      rcases List.mem_cons.mp hz with rfl | hz
      · exact Int.le_refl _
      · exact Int.le_trans h (h2 z hz)
    · rename_i h
      refine ⟨List.mem_cons_of_mem _ h1, fun z hz => ?_⟩
      rcases List.mem_cons.mp hz with rfl | hz
      · omega
      · exact h2 z hz
    · intro e; cases e
theorem hu65 {k : Nat} {A : Around} (hr : Room k A) : A.units + 65 < cLine := by have := hr.un; omega
section
variable {X : Cx} {W : WX} {a b : Expr} {pos : Pos} {p1 p2 : Bool} {fa fb : EM Opd} {k : Nat}
theorem pq_in (hr : Room k X.A) (ha : PQ X W p1 a fa) (hb : PQ X W p2 b fb) (hm : behindInMarks .In b = false := by rfl) : PQ X W (p1 && p2) (.Compare a [.In] [b] pos) (sO (oS gIn) (sCons p2 fa (sCons true fb sNil))) := pq_cmp ((op_inD (hu65 hr)).or op_in_seq) link_in ha hb hm
theorem pq_notIn (hr : Room k X.A) (ha : PQ X W p1 a fa) (hb : PQ X W p2 b fb) (hm : behindInMarks .NotIn b = false := by rfl) : PQ X W (p1 && p2) (.Compare a [.NotIn] [b] pos) (sO (oS gNotIn) (sCons p2 fa (sCons true fb sNil))) := pq_cmp ((op_notInD (hu65 hr)).or op_notIn_seq) link_notIn ha hb hm
theorem ptq_in (hr : Room k X.A) (ha : PQ X W p1 a fa) (hb : PQ X W p2 b fb) (hm : behindInMarks .In b = false := by rfl) : PTQ X W (p1 && p2) (.Compare a [.In] [b] pos) (sTb (sO (oS gIn) (sCons p2 fa (sCons true fb sNil)))) := ptq_cmp ((op_inD (hu65 hr)).or op_in_seq) link_in ha hb hm
theorem ptq_notIn (hr : Room k X.A) (ha : PQ X W p1 a fa) (hb : PQ X W p2 b fb) (hm : behindInMarks .NotIn b = false := by rfl) : PTQ X W (p1 && p2) (.Compare a [.NotIn] [b] pos) (sTb (sO (oS gNotIn) (sCons p2 fa (sCons true fb sNil)))) := ptq_cmp ((op_notInD (hu65 hr)).or op_notIn_seq) link_notIn ha hb hm
end
/-! ### the calls -/
@[simp] def gMaxL : List D → Option D
  | [.lst ds] => match dInts ds with
    | some ns => if ns = [] then none else some (.int (mxL ns))
    | none => none
  | _ => none
@[simp] def gMinL : List D → Option D
  | [.lst ds] => match dInts ds with
    | some ns => if ns = [] then none else some (.int (mnL ns))
    | none => none
  | _ => none
@[simp] def gSumL : List D → Option D
  | [.lst ds] => match dInts ds with
    | some ns => some (.int ns.sum)
    | none => none
  | _ => none
@[simp] def gAbs : List D → Option D
  | [.int i] => some (.int (if i < 0 then -i else i))
  | _ => none
section
variable {K : PySem.W.Frag}
theorem link_maxL : Link K (oS gMaxL) (rMax K) := by
  refine link_S fun H xs ds d Q r e q => ?_
  unfold gMaxL at e
  split at e
  · split at e
    · rename_i ns hn
      split at e
      · cases e
      · rename_i h0
        cases e
        obtain ⟨x, rfl, r1⟩ := r.one
        cases r1 with
        | lst h r2 =>
          rw [reps_ints_eq r2 hn] at h
          refine ⟨_, ns, rfl, SqL.of h, List.length_pos_iff.mpr h0, fun m h1 h2 => ?_⟩
          obtain ⟨k1, k2⟩ := mxL_mem h0
          have : m = mxL ns := Int.le_antisymm (k2 m h1) (h2 _ k1)
          rw [this]
          exact q
    · cases e
  · cases e
theorem link_minL : Link K (oS gMinL) (rMin K) := by
  refine link_S fun H xs ds d Q r e q => ?_
  unfold gMinL at e
  split at e
  · split at e
    · rename_i ns hn
      split at e
      · cases e
      · rename_i h0
        cases e
        obtain ⟨x, rfl, r1⟩ := r.one
        cases r1 with
        | lst h r2 =>
          rw [reps_ints_eq r2 hn] at h
          refine ⟨_, ns, rfl, SqL.of h, List.length_pos_iff.mpr h0, fun m h1 h2 => ?_⟩
          obtain ⟨k1, k2⟩ := mnL_mem h0
          have : m = mnL ns := Int.le_antisymm (h2 _ k1) (k2 m h1)
          rw [this]
          exact q
    · cases e
  · cases e
theorem link_sumL : Link K (oS gSumL) (rSum K) := by
  refine link_S fun H xs ds d Q r e q => ?_
  unfold gSumL at e
  split at e
  · split at e
    · rename_i ns hn
      cases e
      obtain ⟨x, rfl, r1⟩ := r.one
      cases r1 with
      | lst h r2 =>
        rw [reps_ints_eq r2 hn] at h
        exact ⟨_, ns, rfl, SqL.of h, q⟩
    · cases e
  · cases e
theorem link_abs : Link K (oS gAbs) (fun xs H Q => ∃ i, xs = [.int i] ∧ Q (.int (if i < 0 then -i else i)) H) := by
  refine link_S fun H xs ds d Q r e q => ?_
  unfold gAbs at e
  split at e
  · obtain ⟨x, rfl, r1⟩ := r.one
    cases e
    have := r1.v_int; subst this
    exact ⟨_, rfl, q⟩
  · cases e
end
section
variable {X : Cx} {W : WX} {e : Expr} {p1 pos : Pos} {p : Bool} {f : EM Opd}
theorem pq_maxL (hc : X.calm = true) (hg : Gl X "max") (hm : X.mg "max" = none) (he : PQ X W p e f) (hs : starEach [e] X.env = (false, eval e X.env) :: starEach [] X.env := by rfl) (hpl : (backTo pos (starEach [] X.env)).any (·.1) = false := by rfl) :
    PQ X W p (.Call (.Name "max" p1) [e] [] pos) (sO (oS gMaxL) (sCons true f sNil)) := by
  have h := pq_blt (pos := pos) (p := p1) (cr_max hc) link_maxL hg hm (by decide +kernel) (paq_cons he (paq_nil (p := true)) hs) (by decide) (by decide) hs hpl
  simpa using h
theorem pq_minL (hc : X.calm = true) (hg : Gl X "min") (hm : X.mg "min" = none) (he : PQ X W p e f) (hs : starEach [e] X.env = (false, eval e X.env) :: starEach [] X.env := by rfl) (hpl : (backTo pos (starEach [] X.env)).any (·.1) = false := by rfl) :
    PQ X W p (.Call (.Name "min" p1) [e] [] pos) (sO (oS gMinL) (sCons true f sNil)) := by
  have h := pq_blt (pos := pos) (p := p1) (cr_min hc) link_minL hg hm (by decide +kernel) (paq_cons he (paq_nil (p := true)) hs) (by decide) (by decide) hs hpl
  simpa using h
theorem pq_sumL (hc : X.calm = true) (hg : Gl X "sum") (hm : X.mg "sum" = none) (he : PQ X W p e f) (hs : starEach [e] X.env = (false, eval e X.env) :: starEach [] X.env := by rfl) (hpl : (backTo pos (starEach [] X.env)).any (·.1) = false := by rfl) :
    PQ X W p (.Call (.Name "sum" p1) [e] [] pos) (sO (oS gSumL) (sCons true f sNil)) := by
  have h := pq_blt (pos := pos) (p := p1) (cr_sum hc) link_sumL hg hm (by decide +kernel) (paq_cons he (paq_nil (p := true)) hs) (by decide) (by decide) hs hpl
  simpa using h
theorem pq_abs (hg : Gl X "abs") (hm : X.mg "abs" = none) (he : PQ X W p e f) (hs : starEach [e] X.env = (false, eval e X.env) :: starEach [] X.env := by rfl) (hpl : (backTo pos (starEach [] X.env)).any (·.1) = false := by rfl) :
    PQ X W p (.Call (.Name "abs" p1) [e] [] pos) (sO (oS gAbs) (sCons true f sNil)) := by
  have h := pq_blt (pos := pos) (p := p1) call_abs link_abs hg hm (by decide +kernel) (paq_cons he (paq_nil (p := true)) hs) (by decide) (by decide) hs hpl
  simpa using h
end
/-! ### x += e, ints -/
def sAugI (g : Int → Int → Int) (i : Nat) (f : EM Opd) : SM := fun env => match env[i]? with
  | some (some (.z (.int a))) => match f env with
    | none => none
    | some (.ex x e) => some (.ex x e)
    | some (.ok o e) => match o.rd e with
      | some (.int b) => if i < e.length then some (.nx (e.set i (some (.z (.int (g a b)))))) else none
      | _ => none
  | _ => none
theorem augI_ok {K : PySem.W.Frag} {W : WX} {P : List Nat} {D : Ends} {σ : L2.St} {H : Hp} {i : Nat} {f : EM Opd} {g : Int → Int → Int} (hP : i ∉ P) (q : tS K W P (sAugI g i f) D σ H) : tAug i (tQ K W false f) (ipI g) D σ H := by
  obtain ⟨Z, env, F, ok, er, o, ho, post⟩ := q
  unfold sAugI at ho
  split at ho
  · rename_i a ha
    obtain ⟨v, Fi, h1, h2, _⟩ := er.at ha
    have hv : v = .int a := by
      cases h2 with
      | z r => exact r.v_int
    subst hv
    refine ⟨_, h1, ?_⟩
    split at ho
    · cases ho
    · rename_i x e hf
      cases ho
      exact ⟨Z, env, F, ok, er, _, hf, fun d H' Z' F' a b c f => post d σ H' Z' F' a b c f Pin.refl⟩
    · rename_i o1 e hf
      split at ho
      · rename_i b hb
        split at ho
        · rename_i hi
          cases ho
          refine ⟨Z, env, F, ok, er, _, hf, fun y H1 Z1 F1 G1 x1 ok1 er1 or1 _ => ?_⟩
          have := (or1.look ok1.sub er1 hb).v_int
          subst this
          refine ⟨a, b, rfl, rfl, ?_⟩
          obtain ⟨F4, x4, ok4, er4⟩ := er1.put (t := .z (.int (g a b))) (v := .int (g a b)) (G := []) (by simpa using ok1.left) (.z .int) hi
          refine post _ H1 Z1 F4 ((x1.sub fun a ha => List.mem_append_left _ ha).trans (by simpa using x4)) ok4 er4 (Pin.set hP)
        · cases ho
      · cases ho
  · cases ho
theorem psq_augI {X : Cx} {W : WX} {P : List Nat} {x : Str} {pos' pos : Pos} {e : Expr} {p : Bool} {f : EM Opd} {i : Nat} {op : Operator} {g : Int → Int → Int} (ho : PIp X op (ipI g)) (hN : X.N.Nodup) (hi : X.N[i]? = some x) (hx : Loc X.env.scope x) (he : PQ X W p e f) (hP : i ∉ P := by decide) (hf : X.fn x = true ∨ X.env.scope.names.lookup x = some .local := by first | exact .inl rfl | exact .inr rfl | assumption) :
    PSQ X W P (.AugAssign (.Name x pos') op e pos) (sAugI g i f) :=
  (ps_aug hN hi hx (he.imp fun _ _ _ z => tQ_any z : PQ X W false e f) ho hf).imp fun D σ H q => augI_ok hP q
end DL

/-! DL24: places as receivers. -/
namespace DL
open PySem PySem.Spec PyProof.Rows L2
/-- x stands at the place p below slot i, and what another value there makes of all slots -/
def Pl (K : PySem.W.Frag) (Z H : Hp) (env : En) (σ : L2.St) (F : List Addr) (i : Nat) (p : List Nat) (w : T) (x : V) : Prop :=
  ∃ u A Fi B, env[i]? = some (some u) ∧ u.at p = some w ∧ F = A ++ Fi ++ B ∧ RepT K Z H w x Fi ∧
    ∀ Z' H', (∀ a o, Z a = some o → Z' a = some o) → (∀ a xs, H a = some (.tup xs) → H' a = some (.tup xs)) → (∀ a ∈ A ++ B, ∀ o, H a = some o → H' a = some o) →
      ∀ w' G, RepT K Z' H' w' x G → EnvR K Z' H' (env.set i (some (u.put p w'))) σ (A ++ G ++ B)
theorem Pl.grown {K : PySem.W.Frag} {Z H H' : Hp} {env : En} {σ : L2.St} {F : List Addr} {i : Nat} {p : List Nat} {w : T} {x : V} (h : Pl K Z H env σ F i p w x) (g : Grow H H') : Pl K Z H' env σ F i p w x := by
  obtain ⟨u, A, Fi, B, h1, h2, h3, h4, h5⟩ := h
  exact ⟨u, A, Fi, B, h1, h2, h3, h4.keep (fun _ _ z => z) g.tt fun a _ o z => g a o z, fun Z' H2 zz tt k => h5 Z' H2 zz (fun a xs z => tt a xs (g.tt a xs z)) fun a ha o z => k a ha o (g a o z)⟩
theorem T.at_snoc : ∀ {p : List Nat} {u w t : T} {n : Nat}, u.at p = some w → w.kid n = some t → u.at (p ++ [n]) = some t ∧ ∀ w', u.put (p ++ [n]) w' = u.put p (w.setKid n w')
  | [], u, w, t, n, h, k => by
    simp only [T.at, Option.some.injEq] at h
    subst h
    refine ⟨by simp [T.at, k], fun w' => ?_⟩
    simp [T.put, k]
  | m :: p, u, w, t, n, h, k => by
    unfold T.at at h
    split at h
    · rename_i v hv
      obtain ⟨h1, h2⟩ := T.at_snoc h k
      refine ⟨?_, fun w' => ?_⟩
      · show (match u.kid m with | some k => T.at (p ++ [n]) k | none => none) = _
        rw [hv]
        exact h1
      · show (match u.kid m with | some k => u.setKid m (T.put (p ++ [n]) k w') | none => u) = (match u.kid m with | some k => u.setKid m (T.put p k (w.setKid n w')) | none => u)
        rw [hv]
        simp only [h2 w']
    · cases h
abbrev PlM := En → Option (Nat × List Nat × T)
def tPl (K : PySem.W.Frag) (pl : PlM) : TE := fun σ H Q => ∃ Z env F, Ok Z H F ∧ EnvR K Z H env σ F ∧ ∃ i p w, pl env = some (i, p, w) ∧
  ∀ x H', Grow H H' → Ok Z H' F → EnvR K Z H' env σ F → Pl K Z H' env σ F i p w x → Q x H'
abbrev PLQ (X : Cx) (e : Expr) (pl : PlM) : Prop := PE X e (tPl X.K pl)
/-- a name -/
def plV (i : Nat) : PlM := fun env => match env[i]? with
  | some (some u) => some (i, [], u)
  | _ => none
theorem plq_var {X : Cx} {x : Str} {pos : Pos} (i : Nat) (h : PE X (.Name x pos) (tVar i)) : PLQ X (.Name x pos) (plV i) := by
  refine h.imp fun σ H Q ⟨Z, env, F, ok, er, j, p, w, e, post⟩ => ?_
  unfold plV at e
  split at e
  · rename_i u hu
    simp only [Option.some.injEq, Prod.mk.injEq] at e
    obtain ⟨rfl, rfl, rfl⟩ := e
    obtain ⟨A, Fi, B, o, e1, e2, e3, e4⟩ := er.lens hu
    cases e3 with
    | @so _ v _ r =>
      refine ⟨v, e2, post v H (fun _ _ z => z) ok er ⟨u, A, Fi, B, hu, rfl, e1, r, fun Z' H' zz tt k w' G r' => ?_⟩⟩
      have z := e4 Z' H' zz tt k (some w') (some v) G (.so r')
      rw [set_same e2] at z
      exact z
  · cases e
/-- a child by its number -/
def kidIx (w : T) (k : Int) : Option (Nat × T) := match w with
  | .lst ts => match ixN ts.length k with
    | some n => match ts[n]? with
      | some t => some (n, t)
      | none => none
    | none => none
  | _ => none
def plIx (pl : PlM) (fb : EM Opd) : PlM := fun env => match pl env with
  | some (i, p, w) => match fb env with
    | some (.ok o _) => match o.rd env with
      | some (.int k) => match kidIx w k with
        | some (n, t) => some (i, p ++ [n], t)
        | none => none
      | _ => none
    | _ => none
  | none => none
theorem Pl.kid {K : PySem.W.Frag} {Z H : Hp} {env : En} {σ : L2.St} {F : List Addr} {i : Nat} {p : List Nat} {ts : List T} {x : V} {n : Nat} {t : T} (h : Pl K Z H env σ F i p (.lst ts) x) (ht : ts[n]? = some t) :
    ∃ a vs y, x = .ref a ∧ H a = some (.lst vs) ∧ vs.length = ts.length ∧ vs[n]? = some y ∧ Pl K Z H env σ F i (p ++ [n]) t y := by
  obtain ⟨u, A, Fi, B, h1, h2, h3, h4, h5⟩ := h
  cases h4 with
  | @lst a vs _ Ft ha r =>
    obtain ⟨A2, F2, B2, y, e1, e2, e3, e4⟩ := r.lens ht
    refine ⟨a, vs, y, rfl, ha, r.length.symm, e2, u, A ++ (a :: A2), F2, B2 ++ B, h1, (T.at_snoc h2 (show (T.lst ts).kid n = some t from ht)).1, by rw [h3, e1]; simp, e3, fun Z' H' zz tt k w' G r' => ?_⟩
    rw [(T.at_snoc h2 (show (T.lst ts).kid n = some t from ht)).2 w']
    have z := e4 Z' H' zz tt (fun b hb => k b (by simp only [List.mem_append, List.mem_cons] at hb ⊢; rcases hb with h | h; exact .inl (.inr (.inr h)); exact .inr (.inl h))) w' G r'
    have z2 : RepT K Z' H' (.lst (ts.set n w')) (.ref a) (a :: (A2 ++ G ++ B2)) := .lst (k a (by simp) _ ha) z
    have z3 := h5 Z' H' zz tt (fun b hb => k b (by simp only [List.mem_append, List.mem_cons] at hb ⊢; rcases hb with h | h; exact .inl (.inl h); exact .inr (.inr h))) _ _ z2
    show EnvR K Z' H' (env.set i (some (u.put p (.lst (ts.set n w'))))) σ _
    simpa using z3
theorem plq_ix {X : Cx} {W : WX} {a b : Expr} {pos : Pos} {pl : PlM} {fb : EM Opd} (ha : PLQ X a pl) (hb : PQ X W true b fb) (hs : PlainIx b := by exact fun _ _ => rfl) : PLQ X (.Subscript a b pos) (plIx pl fb) :=
  (pe_ix ix_seq ha hb hs).imp fun σ H Q ⟨Z, env, F, ok, er, j, p, w, e, post⟩ => by
    unfold plIx at e
    split at e
    · rename_i i p0 w0 hpl
      split at e
      · rename_i o e1 hfb
        split at e
        · rename_i k hk
          split at e
          · rename_i n t hkid
            simp only [Option.some.injEq, Prod.mk.injEq] at e
            obtain ⟨rfl, rfl, rfl⟩ := e
            refine ⟨Z, env, F, ok, er, i, p0, w0, hpl, fun x H1 g1 ok1 er1 pl1 => ?_⟩
            refine ⟨Z, env, F, ok1, er1, _, hfb, fun y H2 Z2 F2 G2 x2 ok2 er2 or2 pp => ?_⟩
            obtain ⟨rfl, rfl, rfl, g2⟩ := pp rfl
            have hy := (or2.look ok2.sub er2 hk).v_int
            subst hy
            unfold kidIx at hkid
            split at hkid
            · rename_i ts
              split at hkid
              · rename_i m hm
                split at hkid
                · rename_i t' ht'
                  simp only [Option.some.injEq, Prod.mk.injEq] at hkid
                  obtain ⟨rfl, rfl⟩ := hkid
                  obtain ⟨a, vs, y, rfl, hH, hl, hv, pl3⟩ := (pl1.grown g2).kid ht'
                  refine .inl ⟨a, vs, k, y, rfl, rfl, SqL.of hH, ?_, post y H2 (fun b o z => g2 b o (g1 b o z)) ok2.left er2 pl3⟩
                  unfold atI
                  rw [hl, hm]
                  exact hv
                · cases hkid
              · cases hkid
            · cases hkid
          · cases e
        · cases e
      · cases e
    · cases e
/-! ### a place's list grows -/
/-- an operand taken as it is, no slot touched -/
def Opd.now (env : En) : Opd → Option T
  | .t u => some u
  | .k d => if d.imm = true then some (.z d) else none
  | .s i => match env[i]? with
    | some (some (.z d)) => some (.z d)
    | _ => none
theorem now_ok {K : PySem.W.Frag} {Z H : Hp} {σ : L2.St} {env : En} {F G : List Addr} {o : Opd} {t : T} {v : V} (ok : Ok Z H (F ++ G)) (er : EnvR K Z H env σ F) (r : OpdR K Z H σ o v G) (e : o.now env = some t) : RepT K Z H t v G := by
  cases r with
  | t r =>
    simp only [Opd.now, Option.some.injEq] at e; subst e
    exact r
  | k r =>
    simp only [Opd.now] at e
    split at e
    · rename_i h
      simp only [Option.some.injEq] at e; subst e
      exact .z (r.imm (fun _ _ z => z) h)
    · cases e
  | @s i v h =>
    simp only [Opd.now] at e
    split at e
    · rename_i d hd
      simp only [Option.some.injEq] at e; subst e
      obtain ⟨v', Fi, h1, h2, _⟩ := er.at hd
      rw [h] at h1; cases h1
      cases h2 with
      | z h2 => exact .z h2
    · cases e
def sAppP (pl : PlM) (f : EM Opd) : SM := fun env => match pl env with
  | some (i, p, .lst ts) => match f env with
    | some (.ok o _) => match o.now env with
      | some t => match env[i]? with
        | some (some u) => if ts.length < sizeLine then some (.nx (env.set i (some (u.put p (.lst (ts ++ [t])))))) else none
        | _ => none
      | none => none
    | _ => none
  | _ => none
theorem appP_ok {K : PySem.W.Frag} {W : WX} {P : List Nat} {D : Ends} {σ : L2.St} {H : Hp} {pl : PlM} {f : EM Opd} (q : tS K W P (sAppP pl f) D σ H) : tDrop (tBM K "list" rAppend (tPl K pl) (tCons (tQ K W true f) tNil)) D σ H := by
  obtain ⟨Z, env, F, ok, er, o, ho, post⟩ := q
  unfold sAppP at ho
  split at ho
  · rename_i i p ts hpl
    split at ho
    · rename_i o1 e1 hf
      split at ho
      · rename_i t ht
        split at ho
        · rename_i u hu
          split at ho
          · rename_i hlt
            cases ho
            refine ⟨Z, env, F, ok, er, i, p, .lst ts, hpl, fun x H1 g1 ok1 er1 pl1 => ?_⟩
            have hx : ∃ a vs, x = .ref a ∧ H1 a = some (.lst vs) := by
              obtain ⟨_, _, _, _, _, _, _, h4, _⟩ := pl1
              cases h4 with
              | lst ha _ => exact ⟨_, _, rfl, ha⟩
            obtain ⟨a, vs, rfl, ha⟩ := hx
            refine ⟨ty_lst ha, Z, env, F, ok1, er1, _, hf, fun y H2 Z2 F2 G2 x2 ok2 er2 or2 pp => ?_⟩
            obtain ⟨rfl, rfl, rfl, g2⟩ := pp rfl
            have rt := now_ok ok2 er2 or2 ht
            obtain ⟨u', A, Fi, B, h1, h2, h3, h4, h5⟩ := pl1.grown g2
            rw [hu] at h1
            cases h1
            cases h4 with
            | @lst _ vs2 _ Ft ha2 rr =>
              subst h3
              have nt : ∀ xs, ¬ H2 a = some (.tup xs) := fun xs h => by
                rw [ha2] at h; cases h
              obtain ⟨tt, kp, ne, fin⟩ := node_upd (o' := .lst (vs2 ++ [y])) ok2 trivial nt
              have ndTG : (Ft ++ G2).Nodup := by
                have nd := ok2.nod
                simp only [List.append_assoc, List.nodup_append, List.mem_append, List.cons_append, List.nodup_cons, List.mem_cons] at nd
                obtain ⟨_, ⟨_, ndT, ndBG, dT⟩, _⟩ := nd
                exact List.nodup_append.mpr ⟨ndT, ndBG.2.1, fun b hb c hc e => dT b hb c (.inr hc) e⟩
              obtain ⟨x5, ok5⟩ := fin (Ft ++ G2) (fun b hb => List.mem_append.mp hb) ndTG
              have r5 := (rr.snoc rt).keep (Z' := Z2) (H' := upd H2 a (.lst (vs2 ++ [y]))) (fun _ _ h => h) tt fun b hb o h => by
                rw [upd_ne (ne b hb)]
                exact h
              have er5 := h5 Z2 (upd H2 a (.lst (vs2 ++ [y]))) (fun _ _ h => h) tt kp (.lst (ts ++ [t])) (a :: (Ft ++ G2)) (.lst upd_same r5)
              refine ⟨a, vs2, y, rfl, rfl, ha2, by rw [← rr.length]; exact hlt, ?_⟩
              have x0 : Ext Z2 H (A ++ (a :: Ft) ++ B) Z2 H2 ((A ++ (a :: Ft) ++ B) ++ G2) := (Ext.sub ⟨fun _ _ h => h, fun b o h _ => g1 b o h, fun b h => .inl h, fun _ _ h => .inl h⟩ (fun b hb => hb)).trans x2
              exact post σ _ Z2 _ (x0.trans x5) ok5 er5 Pin.refl
          · cases ho
        · cases ho
      · cases ho
    · cases ho
  · cases ho
theorem psq_appendP {X : Cx} {W : WX} {P : List Nat} {o e : Expr} {p2 p3 pos : Pos} {pl : PlM} {f : EM Opd} (hx : PLQ X o pl) (he : PQ X W true e f) (hs : swapsWith (.Call (.Attribute o "append" p2) [e] [] p3) none pos.line X.env = pure false := by rfl)
    (hbase : attributeBase o "append" X.env (eval o X.env) = eval o X.env := by rfl)
    (hfew : ((backTo p3 (starEach [e] X.env)).all (fun x => !x.1) && (backToKw p3 (keywordEach [] X.env)).all (fun x => x.1.isSome) && decide ([e].length + ([] : List Keyword).length + (if ([] : List Keyword).isEmpty then 0 else 1) < 30)) = true := by rfl)
    (hline : (p2.endLine == p3.line) = true := by rfl) (hst : starEach [e] X.env = (false, eval e X.env) :: starEach [] X.env := by rfl) (hplain : (backTo p3 (starEach [] X.env)).any (·.1) = false := by rfl) :
    PSQ X W P (.Expr (.Call (.Attribute o "append" p2) [e] [] p3) pos) (sAppP pl f) :=
  (ps_expr (pe_bm PySem.F.plainAttrs_list PySem.F.slot_list_append PySem.F.type_list_append mt_append hx (pa_cons he pa_nil hst) hbase hfew hline hst hplain) hs).imp fun D σ H q => appP_ok q
end DL

/-! DL25: methods; places through attributes. -/
namespace DL
open PySem PySem.Spec PyProof.Rows L2
/-- a method of a class of the text -/
structure MethAt (K : PySem.W.Frag) (x qual : Str) (st : Stmt) (ps : List Str) (f : Addr) (fd : FuncData) : Prop where
  fn : FunD K x qual (defArgs st) (defBody st) (defScope st) [] [] f fd
  b : Binds K fd ps []
theorem def_okM {P : Program} {w : World} {K : PySem.W.Frag} {mg : Str → Option Value} {base : Heap} {x qual : Str} {st : Stmt} {f : Addr} {fd : FuncData} {N ps : List Str} {k : Nat} {io : List Bool} {g : SM} (Fn : MethAt K x qual st ps f fd) (S : FnScope N ps (defScope st)) (hio : io.length ≤ ps.length) (hN : ps.length ≤ N.length)
    (body : ∀ (cdv : Value) (A : Around) (outer : List PySem.Env) (s : Shared) (H : Hp) (E : XK), Room k (A.deeper (envOfC qual (defScope st) s.heap.objs.size f cdv)) →
      PBQ (cxOf (L2.CX P w) P w K mg base N qual (defScope st) f cdv A outer s H E) (fun cls d _ H => E cls d H) (maskIx 0 io) (defBody st) g) :
    FnOk P w K mg base (L2.CX P w) (k + 1) f fd ps (spF K ps.length io (fnOf ps.length N.length io g)) := by
  refine Fn.fn.ok S (fun vs H Q E h => h.1) (fun cdv A outer s H vs Q E hr h => ?_)
  refine ⟨_, body cdv A outer s H E hr, ?_⟩
  obtain ⟨hl, Z, ts, F, ok, r, out, ho, post⟩ := h
  unfold fnOf at ho
  have hts : ts.length = ps.length := r.length.trans hl
  rw [if_pos hts] at ho
  have er := envR_start r (N.length - ps.length)
  have eσ : L2.start N vs = vs.map some ++ List.replicate (N.length - ps.length) none := by unfold L2.start; rw [hl]
  rw [eσ]
  have fin_ok : ∀ {e : En} {fin : List T} {σ' : L2.St} {Z' H' : Hp} {F' : List Addr}, EnvR K Z' H' e σ' F' → fins io e = some fin → Pin (maskIx 0 io) (vs.map some ++ List.replicate (N.length - ps.length) none) σ' →
      ∃ F2, RepTs K Z' H' fin (pick io vs) F2 ∧ F2.Sublist F' := fun {e fin σ' Z' H' F'} er' hf pn => by
    obtain ⟨ws, F2, _, h1, h2, h3⟩ := fins_ok er' hf
    have h4 := pick_pin (io := io) (k := 0) (σ := vs.map some ++ List.replicate (N.length - ps.length) none) (σ' := σ') (A := []) (A' := []) rfl rfl (fun i hi => by simpa using pn.2 i hi) (by simp [hl]; omega) (by rw [← er'.length]; exact fins_len hf)
    rw [h3, pick_some (by rw [hl]; exact hio)] at h4
    have h5 : ws = pick io vs := by
      have := congrArg (List.filterMap id) h4
      simpa using this
    subst h5
    exact ⟨F2, h1, h2⟩
  refine ⟨Z, _, F, ok, er, ?_⟩
  split at ho
  · rename_i e hg
    split at ho
    · rename_i fin hf
      cases ho
      refine ⟨_, hg, fun σ' H' Z' F' x1 ok1 er1 pn => ?_⟩
      obtain ⟨F2, r2, sl⟩ := fin_ok er1 hf pn
      exact post .non H' Z' F2 [] (by simpa using x1.sub fun a ha => sl.subset ha) (by simpa using ok1.subF sl) r2 (.z .non)
    · cases ho
  · rename_i t e hg
    split at ho
    · rename_i fin hf
      cases ho
      refine ⟨_, hg, fun v σ' H' Z' F' G x1 ok1 er1 rt pn => ?_⟩
      obtain ⟨F2, r2, sl⟩ := fin_ok er1 hf pn
      have sl' : (F2 ++ G).Sublist (F' ++ G) := sl.append_right G
      exact post v H' Z' F2 G (x1.sub fun a ha => sl'.subset ha) (ok1.subF sl') r2 rt
    · cases ho
  · rename_i y e hg
    split at ho
    · rename_i fin hf
      cases ho
      refine ⟨_, hg, fun d σ' H' Z' F' x1 ok1 er1 xr pn => ?_⟩
      obtain ⟨F2, r2, sl⟩ := fin_ok er1 hf pn
      exact post d H' Z' F2 (x1.sub fun a ha => sl.subset ha) (ok1.subF sl) r2 xr
    · cases ho
  · cases ho
end DL

/-! DL26: dicts: keys, looking. -/
namespace DL
open PySem PySem.Spec PyProof.Rows L2
/-! ### keys -/
mutual
def keq : D → D → Bool
  | .int i, .int j => decide (i = j)
  | .str x, .str y => decide (x = y)
  | .tup a, .tup b => keqs a b
  | _, _ => false
def keqs : List D → List D → Bool
  | [], [] => true
  | a :: as, b :: bs => keq a b && keqs as bs
  | _, _ => false
end
@[simp] theorem keq_int (i j : Int) : keq (.int i) (.int j) = decide (i = j) := by rw [keq]
@[simp] theorem keq_str (i j : Str) : keq (.str i) (.str j) = decide (i = j) := by rw [keq]
@[simp] theorem keq_tup (a b : List D) : keq (.tup a) (.tup b) = keqs a b := by rw [keq]
@[simp] theorem keqs_nil : keqs [] [] = true := by rw [keqs]
@[simp] theorem keqs_cons (a b : D) (as bs : List D) : keqs (a :: as) (b :: bs) = (keq a b && keqs as bs) := by rw [keqs]
@[simp] theorem keqs_nc (a : D) (as : List D) : keqs [] (a :: as) = false := by rw [keqs] <;> intros <;> simp_all
@[simp] theorem keqs_cn (a : D) (as : List D) : keqs (a :: as) [] = false := by rw [keqs] <;> intros <;> simp_all
theorem keq_key : ∀ a b : Key, keq (keyD a) (keyD b) = decide (a = b)
  | .inl i, .inl j => by simp [keyD]
  | .inr i, .inr j => by simp [keyD]
  | .inl i, .inr j => by simp [keyD, keq]
  | .inr i, .inl j => by simp [keyD, keq]
theorem keqs_key : ∀ a b : List Key, keqs (a.map keyD) (b.map keyD) = decide (a = b)
  | [], [] => by simp
  | [], _ :: _ => by simp
  | _ :: _, [] => by simp
  | a :: as, b :: bs => by
    simp only [List.map_cons, keqs_cons, keq_key, keqs_key as bs, List.cons.injEq, Bool.decide_and]
theorem keq_keys (a b : List Key) : keq (.tup (a.map keyD)) (.tup (b.map keyD)) = decide (a = b) := by rw [keq_tup, keqs_key]
theorem keqs_ints : ∀ a b : List Int, keqs (a.map .int) (b.map .int) = decide (a = b)
  | [], [] => by simp
  | [], _ :: _ => by simp
  | _ :: _, [] => by simp
  | a :: as, b :: bs => by simp only [List.map_cons, keqs_cons, keq_int, keqs_ints as bs, List.cons.injEq, Bool.decide_and]
@[simp] theorem keq_dT (a b : List Int) : keq (dT a) (dT b) = decide (a = b) := by unfold dT; rw [keq_tup, keqs_ints]
def dKey : D → Option Key
  | .int i => some (.inl i)
  | .str x => some (.inr x)
  | _ => none
def dKeys : List D → Option (List Key)
  | [] => some []
  | d :: ds => match dKey d, dKeys ds with
    | some k, some ks => some (k :: ks)
    | _, _ => none
@[simp] def keyOk : Bool → D → Bool
  | false, d => (dKey d).isSome
  | true, .tup ds => (dKeys ds).isSome
  | true, _ => false
@[simp] theorem dKey_int (i : Int) : dKey (.int i) = some (.inl i) := rfl
@[simp] theorem dKey_str (i : Str) : dKey (.str i) = some (.inr i) := rfl
theorem dKey_eq {d : D} {k : Key} (h : dKey d = some k) : d = keyD k := by
  unfold dKey at h
  split at h <;> first | (cases h; rfl) | cases h
theorem dKeys_eq : ∀ {ds : List D} {ks : List Key}, dKeys ds = some ks → ds = ks.map keyD
  | [], ks, h => by simp only [dKeys, Option.some.injEq] at h; subst h; rfl
  | d :: ds, ks, h => by
    simp only [dKeys] at h
    split at h
    · rename_i k ks' h1 h2
      cases h
      rw [dKey_eq h1, dKeys_eq h2]; rfl
    · cases h
@[simp] theorem dKeys_ints (a : List Int) : dKeys (a.map .int) = some (a.map .inl) := by
  induction a with
  | nil => rfl
  | cons a as ih => simp [dKeys, ih]
def idxK (k : D) : List D → Option Nat
  | [] => none
  | j :: js => if keq j k = true then some 0 else (idxK k js).map (· + 1)
theorem idxK_lt {k : D} : ∀ {ks : List D} {n : Nat}, idxK k ks = some n → n < ks.length
  | [], _, h => by simp [idxK] at h
  | j :: js, n, h => by
    unfold idxK at h
    split at h
    · cases h; simp
    · obtain ⟨m, h1, rfl⟩ := Option.map_eq_some_iff.mp h
      have := idxK_lt h1
      simp; exact this
section
variable {κ : Type} [DecidableEq κ] {e : κ → D} (he : ∀ a b, keq (e a) (e b) = decide (a = b))
include he
theorem idx_val (k : κ) : ∀ kvs : List (κ × V), valV kvs k = (idxK (e k) (kvs.map fun p => e p.1)).bind fun n => (kvs.map (·.2))[n]?
  | [] => by simp [idxK, valV_nil]
  | p :: r => by
    have ih := idx_val k r
    by_cases h : p.1 = k
    · rw [valV_pos h]
      simp [idxK, he, h]
    · rw [valV_neg h, ih]
      simp only [List.map_cons, idxK, he, h, decide_false, Bool.false_eq_true, if_false]
      cases idxK (e k) (r.map fun p => e p.1) <;> simp
theorem idx_none {k : κ} {kvs : List (κ × V)} (h : idxK (e k) (kvs.map fun p => e p.1) = none) : valV kvs k = none := by rw [idx_val he, h]; rfl
theorem put_old {k : κ} {v : V} : ∀ {kvs : List (κ × V)} {n : Nat}, (kvs.map (·.1)).Nodup → idxK (e k) (kvs.map fun p => e p.1) = some n → L2.putK kvs k v = kvs.map (fun kv => if kv.1 = k then (kv.1, v) else kv) ∧
    (kvs.map (fun kv => if kv.1 = k then (kv.1, v) else kv)).map (·.2) = (kvs.map (·.2)).set n v
  | [], n, _, h => by simp [idxK] at h
  | p :: r, n, nd, h => by
    have hv : (valV (p :: r) k).isSome = true := by
      rw [idx_val he, h]
      have := idxK_lt h
      simp only [List.length_map, List.length_cons] at this
      simp [this]
    refine ⟨by unfold L2.putK; rw [if_pos (by rw [valV_any]; exact hv)], ?_⟩
    simp only [List.map_cons, List.nodup_cons] at nd
    unfold idxK at h
    simp only [List.map_cons, he] at h
    by_cases hk : p.1 = k
    · rw [if_pos (by simpa using hk)] at h
      cases h
      simp only [List.map_cons, hk, if_true, List.set_cons_zero, List.cons.injEq, true_and]
      have : ∀ x ∈ r, x.1 ≠ k := fun x hx z => nd.1 (by rw [hk, ← z]; exact List.mem_map.mpr ⟨x, hx, rfl⟩)
      rw [List.map_map]
      apply List.map_congr_left
      intro x hx
      simp [this x hx]
    · rw [if_neg (by simpa using hk)] at h
      obtain ⟨m, h1, rfl⟩ := Option.map_eq_some_iff.mp h
      have ih := (put_old (v := v) nd.2 h1).2
      simp only [List.map_cons, hk, if_false, List.set_cons_succ, List.cons.injEq, true_and]
      exact ih
theorem put_new {k : κ} {v : V} {kvs : List (κ × V)} (h : idxK (e k) (kvs.map fun p => e p.1) = none) : L2.putK kvs k v = kvs ++ [(k, v)] := putK_new v (idx_none he h)
end
theorem keys_map {κ : Type} [DecidableEq κ] (kvs : List (κ × V)) (k : κ) (v : V) : (kvs.map (fun kv => if kv.1 = k then (kv.1, v) else kv)).map (·.1) = kvs.map (·.1) := by
  rw [List.map_map]
  apply List.map_congr_left
  intro x _
  by_cases h : x.1 = k <;> simp [h]
/-! ### looking -/
section
variable {K : PySem.W.Frag} {Z H : Hp}
theorem rep_key {k : Key} {y : V} (r : Rep K Z H (keyD k) y) : y = kV k := by
  cases k <;> (cases r; rfl)
theorem reps_keys : ∀ {ks : List Key} {ys : List V}, Reps K Z H (ks.map keyD) ys → ys = ks.map kV
  | [], _, r => by cases r; rfl
  | k :: ks, _, r => by
    cases r with
    | cons a b => rw [rep_key a, reps_keys b]; rfl
/-- what a dict's node holds at a key -/
theorem dic_get {b : Bool} {o : HO} {ks : List D} {vs : List V} {a : Addr} {kd : D} {y : V} (h : H a = some o) (n : DicN b o ks vs) (ry : Rep K Z H kd y) (hk : keyOk b kd = true) :
    DGet H a y ((idxK kd ks).bind fun n => vs[n]?) := by
  cases b with
  | false =>
    obtain ⟨kvs, rfl, rfl, rfl, _⟩ := n
    simp only [keyOk, Option.isSome_iff_exists] at hk
    obtain ⟨k, hk⟩ := hk
    have := dKey_eq hk
    subst this
    have := rep_key ry
    subst this
    have e := idx_val keq_key k kvs
    rw [← e]
    exact DGet.k h
  | true =>
    obtain ⟨kvs, rfl, rfl, rfl, _⟩ := n
    cases kd with
    | tup ds =>
      simp only [keyOk, Option.isSome_iff_exists] at hk
      obtain ⟨k, hk⟩ := hk
      have := dKeys_eq hk
      subst this
      cases ry with
      | tup hb rr =>
        have := reps_keys rr
        subst this
        have e := idx_val keq_keys k kvs
        rw [← e]
        exact DGet.t h hb
    | _ => simp at hk
/-- a dict, looked at -/
def T.dic? : T → Option (Bool × List D × List T)
  | .z (.dic b ks ds) => some (b, ks, ds.map .z)
  | .dic b ks ts => some (b, ks, ts)
  | _ => none
def Opd.dic? (env : En) : Opd → Option (Bool × List D × List Opd)
  | .t u => u.dic?.map fun q => (q.1, q.2.1, q.2.2.map itT)
  | .s i => match env[i]? with
    | some (some u) => u.dic?.map fun q => (q.1, q.2.1, q.2.2.map itT)
    | _ => none
  | .k (.dic b ks ds) => some (b, ks, ds.map itD)
  | _ => none
theorem Reps.opds {σ : L2.St} {ds : List D} {vs : List V} (r : Reps K Z H ds vs) (f : D → Opd) (hf : ∀ d v, Rep K Z H d v → OpdR K Z H σ (f d) v []) : ∀ (n : Nat) (o : Opd), (ds.map f)[n]? = some o → ∃ v, vs[n]? = some v ∧ OpdR K Z H σ o v [] := by
  intro n o e
  rw [List.getElem?_map] at e
  obtain ⟨d, h1, h2⟩ := Option.map_eq_some_iff.mp e
  subst h2
  obtain ⟨v, h3, h4⟩ := r.get h1
  exact ⟨v, h3, hf _ _ h4⟩
theorem RepTs.opds {σ : L2.St} {ts : List T} {vs : List V} {F : List Addr} (r : RepTs K Z H ts vs F) (f : T → Opd) (hf : ∀ t v G, RepT K Z H t v G → OpdR K Z H σ (f t) v []) : ∀ (n : Nat) (o : Opd), (ts.map f)[n]? = some o → ∃ v, vs[n]? = some v ∧ OpdR K Z H σ o v [] := by
  intro n o e
  rw [List.getElem?_map] at e
  obtain ⟨d, h1, h2⟩ := Option.map_eq_some_iff.mp e
  subst h2
  obtain ⟨v, G, h3, h4⟩ := r.get h1
  exact ⟨v, h3, hf _ _ _ h4⟩
theorem itT_ok' {σ : L2.St} {t : T} {v : V} {G : List Addr} (sub : ∀ a o, Z a = some o → H a = some o) (r : RepT K Z H t v G) : OpdR K Z H σ (itT t) v [] := by
  cases r with
  | z r => exact .t (.z r)
  | tup h r => exact .k (RepT.look (.tup h r) sub)
  | lst h r => exact .k (RepT.look (.lst h r) sub)
  | dic h n r => exact .k (RepT.look (.dic h n r) sub)
  | obj h n r => exact .k (RepT.look (.obj h n r) sub)
def DicSeen (K : PySem.W.Frag) (Z H : Hp) (σ : L2.St) (b : Bool) (ks : List D) (os : List Opd) (x : V) : Prop :=
  ∃ a o vs, x = .ref a ∧ H a = some o ∧ DicN b o ks vs ∧ os.length = vs.length ∧ ∀ (n : Nat) (w : Opd), os[n]? = some w → ∃ v, vs[n]? = some v ∧ OpdR K Z H σ w v []
theorem dicT_ok {σ : L2.St} {u : T} {v : V} {G : List Addr} {b : Bool} {ks : List D} {ts : List T} (sub : ∀ a o, Z a = some o → H a = some o) (r : RepT K Z H u v G) (e : u.dic? = some (b, ks, ts)) : DicSeen K Z H σ b ks (ts.map itT) v := by
  unfold T.dic? at e
  split at e
  · cases e
    cases r with
    | z r =>
      cases r with
      | dic h n r => exact ⟨_, _, _, rfl, sub _ _ h, n, by simp [r.length], by rw [List.map_map]; exact r.opds _ fun d v r => .t (.z r)⟩
  · cases e
    cases r with
    | dic h n r => exact ⟨_, _, _, rfl, h, n, by simp [r.length], r.opds _ fun t v G r => itT_ok' sub r⟩
  · cases e
theorem dic_seen {σ : L2.St} {env : En} {F G : List Addr} {o : Opd} {x : V} {b : Bool} {ks : List D} {os : List Opd} (sub : ∀ a o, Z a = some o → H a = some o) (er : EnvR K Z H env σ F) (r : OpdR K Z H σ o x G) (e : o.dic? env = some (b, ks, os)) : DicSeen K Z H σ b ks os x := by
  unfold Opd.dic? at e
  split at e
  · obtain ⟨⟨b', ks', ts⟩, h1, h2⟩ := Option.map_eq_some_iff.mp e
    cases h2
    cases r with
    | t r => exact dicT_ok sub r h1
  · split at e
    · rename_i u hu
      obtain ⟨⟨b', ks', ts⟩, h1, h2⟩ := Option.map_eq_some_iff.mp e
      cases h2
      cases r with
      | s h =>
        obtain ⟨v', Fi, h2, h3, _⟩ := er.at hu
        rw [h] at h2; cases h2
        exact dicT_ok sub h3 h1
    · cases e
  · cases e
    cases r with
    | k r =>
      cases r with
      | dic h n r => exact ⟨_, _, _, rfl, h, n, by simp [r.length], fun n o e => by
          rw [List.getElem?_map] at e
          obtain ⟨d, h1, h2⟩ := Option.map_eq_some_iff.mp e
          subst h2
          obtain ⟨v, h3, h4⟩ := r.get h1
          exact ⟨v, h3, itD_ok h4⟩⟩
  · cases e
theorem DicSeen.get {σ : L2.St} {b : Bool} {ks : List D} {os : List Opd} {x y : V} {kd : D} {Z' : Hp} (h : DicSeen K Z H σ b ks os x) (ry : Rep K Z' H kd y) (hk : keyOk b kd = true) :
    ∃ a r, x = .ref a ∧ DGet H a y r ∧ (∀ (n : Nat) (w : Opd), idxK kd ks = some n → os[n]? = some w → ∃ v, r = some v ∧ OpdR K Z H σ w v []) ∧ (idxK kd ks = none → r = none) ∧ (r.isSome = (idxK kd ks).isSome) := by
  obtain ⟨a, o, vs, rfl, ha, n, hl, hg⟩ := h
  have hlen : ks.length = vs.length := by
    cases b with
    | false => obtain ⟨kvs, _, rfl, rfl, _⟩ := n; simp
    | true => obtain ⟨kvs, _, rfl, rfl, _⟩ := n; simp
  refine ⟨a, _, rfl, dic_get ha n ry hk, fun m w hm hw => ?_, fun hm => by rw [hm]; rfl, ?_⟩
  · obtain ⟨v, h1, h2⟩ := hg m w hw
    exact ⟨v, by rw [hm]; exact h1, h2⟩
  · cases hm : idxK kd ks with
    | none => rfl
    | some m =>
      have := idxK_lt hm
      rw [hlen] at this
      simp [this]
end
/-! ### d[k] -/
def rDGet : R2 := fun x y H Q => ∃ a v, x = .ref a ∧ DGet H a y (some v) ∧ Q v H
theorem ix_dict {X : Cx} (hu : X.A.units + 1 < cLine) : IxR X rDGet := by
  intro value slice pins s σ H x y v u Q I rx ry h hs
  obtain ⟨a, w, rfl, g, q⟩ := h
  obtain rfl : v = Value.ref a := rx
  have hT := dict_typeIs I g
  unfold subscriptTail
  refine wpAny_bind ?_
  rw [getitemInPython_of_ne hT.not_modules]
  refine wpAny_bind (wpAny_specialOf hT PySem.F.slot_dict_getitem.lookup ?_)
  have fin : wpAny (model X.prog X.w) X.A (subscripted slice false (Value.ref a) u) (fun r s₃ => wpAny (model X.prog X.w) X.A (letTemporaryGo value (Value.ref a) r >>= fun _ => pure r) (EP X pins σ Q) X.xe s₃) X.xe s := by
    rw [hs]
    exact wpAny_operating (d_getItem hu I g ry fun w' s3 I3 rw' => wpAny_bind (wpAny_letTemporaryGo (wpAny_pure ⟨w, H, I3, rw', q⟩)))
  first
    | exact wpAny_pure (wpAny_bind fin)
    | exact wpAny_bind (wpAny_pure (wpAny_bind fin))
    | exact wpAny_bind fin
def oDix (env : En) : List Opd → Option Opd
  | [a, k] => match a.dic? env with
    | some (b, ks, os) => match k.rd env with
      | some kd => if keyOk b kd = true then match idxK kd ks with
        | some n => os[n]?
        | none => none
        else none
      | none => none
    | none => none
  | _ => none
theorem link_dix {K : PySem.W.Frag} : Link K oDix (R2L rDGet) := by
  intro σ Z H F G env os xs o' Q ok er or ho hq
  unfold oDix at ho
  split at ho
  · rename_i a k
    obtain ⟨x, y, A, B, rfl, ra, rb⟩ := or.two
    split at ho
    · rename_i b ks ws ha
      split at ho
      · rename_i kd hk
        split at ho
        · rename_i hkey
          split at ho
          · rename_i n hn
            have ry := rb.look ok.sub er hk
            obtain ⟨p, r, rfl, g, h1, _, _⟩ := (dic_seen ok.sub er ra ha).get ry hkey
            obtain ⟨v, rfl, h2⟩ := h1 n o' hn ho
            exact ⟨p, v, rfl, g, hq v H [] (fun _ _ z => z) (fun _ z => nomatch z) List.nodup_nil h2⟩
          · cases ho
        · cases ho
      · cases ho
    · cases ho
  · cases ho
/-- one of two operations -/
def oElse (o1 o2 : En → List Opd → Option Opd) (env : En) (os : List Opd) : Option Opd := match o1 env os with
  | some r => some r
  | none => o2 env os
theorem link_or {K : PySem.W.Frag} {o1 o2 : En → List Opd → Option Opd} {R1 R2 : List V → Hp → VK → Prop} (h1 : Link K o1 R1) (h2 : Link K o2 R2) : Link K (oElse o1 o2) (fun xs H Q => R1 xs H Q ∨ R2 xs H Q) := by
  intro σ Z H F G env os xs o' Q ok er or ho hq
  unfold oElse at ho
  split at ho
  · rename_i r hr
    cases ho
    exact .inl (h1 σ Z H F G env os xs _ Q ok er or hr hq)
  · exact .inr (h2 σ Z H F G env os xs _ Q ok er or ho hq)
theorem pq_ix2 {X : Cx} {W : WX} {a b : Expr} {pos : Pos} {p1 p2 : Bool} {fa fb : EM Opd} {k : Nat} (hr : Room k X.A) (ha : PQ X W p1 a fa) (hb : PQ X W p2 b fb) (hs : PlainIx b := by exact fun _ _ => rfl) :
    PQ X W (p1 && p2) (.Subscript a b pos) (sO (oElse oIx oDix) (sCons p2 fa (sCons true fb sNil))) :=
  (pe_ix (ix_seq.or (ix_dict (hu_of hr))) ha hb hs).imp fun _ _ _ h => two_ok (o_ok (link_or link_ix link_dix) h)
/-! ### k in d -/
def rDIn (neg : Bool) : R2 := fun y x H Q => ∃ a o, x = .ref a ∧ DGet H a y o ∧ Q (.bl (if neg then !o.isSome else o.isSome)) H
theorem op_dIn {X : Cx} (hu : X.A.units + 1 < cLine) : OpR X (compareOp .In) (rDIn false) := by
  intro pins s σ H x y v u Q I rx ry h
  obtain ⟨a, o, rfl, g, q⟩ := h
  obtain rfl : u = Value.ref a := ry
  exact d_in hu I g rx fun s' I' => ⟨.bl o.isSome, H, I', rfl, q⟩
theorem op_dNotIn {X : Cx} (hu : X.A.units + 1 < cLine) : OpR X (compareOp .NotIn) (rDIn true) := by
  intro pins s σ H x y v u Q I rx ry h
  obtain ⟨a, o, rfl, g, q⟩ := h
  obtain rfl : u = Value.ref a := ry
  exact d_notIn hu I g rx fun s' I' => ⟨.bl (!o.isSome), H, I', rfl, q⟩
def oDIn (neg : Bool) (env : En) : List Opd → Option Opd
  | [k, a] => match a.dic? env with
    | some (b, ks, _) => match k.rd env with
      | some kd => if keyOk b kd = true then some (.t (.z (.bl (if neg then !(idxK kd ks).isSome else (idxK kd ks).isSome)))) else none
      | none => none
    | none => none
  | _ => none
theorem link_dIn {K : PySem.W.Frag} {neg : Bool} : Link K (oDIn neg) (R2L (rDIn neg)) := by
  intro σ Z H F G env os xs o' Q ok er or ho hq
  unfold oDIn at ho
  split at ho
  · rename_i k a
    obtain ⟨y, x, A, B, rfl, rb, ra⟩ := or.two
    split at ho
    · rename_i b ks ws ha
      split at ho
      · rename_i kd hk
        split at ho
        · rename_i hkey
          cases ho
          have ry := rb.look ok.sub er hk
          obtain ⟨p, r, rfl, g, _, _, h1⟩ := (dic_seen ok.sub er ra ha).get ry hkey
          refine ⟨p, r, rfl, g, ?_⟩
          rw [h1]
          exact hq _ H [] (fun _ _ z => z) (fun _ z => nomatch z) List.nodup_nil (.t (.z .bl))
        · cases ho
      · cases ho
    · cases ho
  · cases ho
end DL

/-! DL27: places through attributes and dicts; what is written there. -/
namespace DL
open PySem PySem.Spec PyProof.Rows L2
/-! ### kids of a place -/
section
variable {K : PySem.W.Frag} {Z H : Hp} {env : En} {σ : L2.St} {F : List Addr} {i : Nat} {p : List Nat} {x : V}
theorem Pl.kidDic {b : Bool} {ks : List D} {ts : List T} {n : Nat} {t : T} (h : Pl K Z H env σ F i p (.dic b ks ts) x) (ht : ts[n]? = some t) :
    ∃ a o vs y, x = .ref a ∧ H a = some o ∧ DicN b o ks vs ∧ vs[n]? = some y ∧ Pl K Z H env σ F i (p ++ [n]) t y := by
  obtain ⟨u, A, Fi, B, h1, h2, h3, h4, h5⟩ := h
  cases h4 with
  | @dic a o _ _ vs _ Ft ha hn r =>
    obtain ⟨A2, F2, B2, y, e1, e2, e3, e4⟩ := r.lens ht
    refine ⟨a, o, vs, y, rfl, ha, hn, e2, u, A ++ (a :: A2), F2, B2 ++ B, h1, (T.at_snoc h2 (show (T.dic b ks ts).kid n = some t from ht)).1, by rw [h3, e1]; simp, e3, fun Z' H' zz tt k w' G r' => ?_⟩
    rw [(T.at_snoc h2 (show (T.dic b ks ts).kid n = some t from ht)).2 w']
    have z := e4 Z' H' zz tt (fun b hb => k b (by simp only [List.mem_append, List.mem_cons] at hb ⊢; rcases hb with h | h; exact .inl (.inr (.inr h)); exact .inr (.inl h))) w' G r'
    have z2 : RepT K Z' H' (.dic b ks (ts.set n w')) (.ref a) (a :: (A2 ++ G ++ B2)) := .dic (k a (by simp) _ ha) hn z
    have z3 := h5 Z' H' zz tt (fun b hb => k b (by simp only [List.mem_append, List.mem_cons] at hb ⊢; rcases hb with h | h; exact .inl (.inl h); exact .inr (.inr h))) _ _ z2
    show EnvR K Z' H' (env.set i (some (u.put p (.dic b ks (ts.set n w'))))) σ _
    simpa using z3
theorem Pl.kidObj {C : Addr} {ns : List Str} {ts : List T} {n : Nat} {t : T} (h : Pl K Z H env σ F i p (.obj C ns ts) x) (ht : ts[n]? = some t) :
    ∃ a dx fs y, x = .ref a ∧ H a = some (.ins C dx fs) ∧ fs.map (·.1) = ns ∧ (fs.map (·.2))[n]? = some y ∧ Pl K Z H env σ F i (p ++ [n]) t y := by
  obtain ⟨u, A, Fi, B, h1, h2, h3, h4, h5⟩ := h
  cases h4 with
  | @obj a _ dx fs _ _ Ft ha hn r =>
    obtain ⟨A2, F2, B2, y, e1, e2, e3, e4⟩ := r.lens ht
    refine ⟨a, dx, fs, y, rfl, ha, hn, e2, u, A ++ (a :: A2), F2, B2 ++ B, h1, (T.at_snoc h2 (show (T.obj C ns ts).kid n = some t from ht)).1, by rw [h3, e1]; simp, e3, fun Z' H' zz tt k w' G r' => ?_⟩
    rw [(T.at_snoc h2 (show (T.obj C ns ts).kid n = some t from ht)).2 w']
    have z := e4 Z' H' zz tt (fun b hb => k b (by simp only [List.mem_append, List.mem_cons] at hb ⊢; rcases hb with h | h; exact .inl (.inr (.inr h)); exact .inr (.inl h))) w' G r'
    have z2 : RepT K Z' H' (.obj C ns (ts.set n w')) (.ref a) (a :: (A2 ++ G ++ B2)) := .obj (k a (by simp) _ ha) hn z
    have z3 := h5 Z' H' zz tt (fun b hb => k b (by simp only [List.mem_append, List.mem_cons] at hb ⊢; rcases hb with h | h; exact .inl (.inl h); exact .inr (.inr h))) _ _ z2
    show EnvR K Z' H' (env.set i (some (u.put p (.obj C ns (ts.set n w'))))) σ _
    simpa using z3
end
/-- the child at a key -/
def kidD (w : T) (d : D) : Option (Nat × T) := match w with
  | .lst ts => match d with
    | .int k => match ixN ts.length k with
      | some n => match ts[n]? with
        | some t => some (n, t)
        | none => none
      | none => none
    | _ => none
  | .dic b ks ts => if keyOk b d = true then match idxK d ks with
    | some n => match ts[n]? with
      | some t => some (n, t)
      | none => none
    | none => none
    else none
  | _ => none
/-- what stands there, read -/
def rGet (K : PySem.W.Frag) : V → V → Hp → VK → Prop := fun x y H Q => rIxL K x y H Q ∨ rDGet x y H Q
theorem Pl.kidD {K : PySem.W.Frag} {Z H : Hp} {env : En} {σ : L2.St} {F : List Addr} {i : Nat} {p : List Nat} {x y : V} {w t : T} {d : D} {n : Nat} (h : Pl K Z H env σ F i p w x) (ry : Rep K H H d y) (e : DL.kidD w d = some (n, t)) :
    ∃ v, (∀ Q : VK, Q v H → rGet K x y H Q) ∧ Pl K Z H env σ F i (p ++ [n]) t v := by
  unfold DL.kidD at e
  split at e
  · rename_i ts
    split at e
    · rename_i k
      split at e
      · rename_i m hm
        split at e
        · rename_i t' ht
          cases e
          obtain ⟨a, vs, v, rfl, hH, hl, hv, pl⟩ := h.kid ht
          have := ry.v_int
          subst this
          refine ⟨v, fun Q q => .inl ⟨a, vs, k, v, rfl, rfl, SqL.of hH, ?_, q⟩, pl⟩
          unfold atI
          rw [hl, hm]
          exact hv
        · cases e
      · cases e
    · cases e
  · rename_i b ks ts
    split at e
    · rename_i hk
      split at e
      · rename_i m hm
        split at e
        · rename_i t' ht
          cases e
          obtain ⟨a, o, vs, v, rfl, hH, hn, hv, pl⟩ := h.kidDic ht
          have g := dic_get hH hn ry hk
          rw [hm] at g
          rw [show (some n).bind (fun n => vs[n]?) = some v from hv] at g
          exact ⟨v, fun Q q => .inr ⟨a, v, rfl, g, q⟩, pl⟩
        · cases e
      · cases e
    · cases e
  · cases e
def plAt (pl : PlM) (fb : EM Opd) : PlM := fun env => match pl env with
  | some (i, p, w) => match fb env with
    | some (.ok o _) => match o.rd env with
      | some d => match kidD w d with
        | some (n, t) => some (i, p ++ [n], t)
        | none => none
      | _ => none
    | _ => none
  | none => none
theorem plq_at {X : Cx} {W : WX} {a b : Expr} {pos : Pos} {pl : PlM} {fb : EM Opd} {k : Nat} (hr : Room k X.A) (ha : PLQ X a pl) (hb : PQ X W true b fb) (hs : PlainIx b := by exact fun _ _ => rfl) : PLQ X (.Subscript a b pos) (plAt pl fb) :=
  (pe_ix (ix_list.or (ix_dict (hu_of hr))) ha hb hs).imp fun σ H Q ⟨Z, env, F, ok, er, j, p, w, e, post⟩ => by
    unfold plAt at e
    split at e
    · rename_i i p0 w0 hpl
      split at e
      · rename_i o e1 hfb
        split at e
        · rename_i d hd
          split at e
          · rename_i n t hkid
            simp only [Option.some.injEq, Prod.mk.injEq] at e
            obtain ⟨rfl, rfl, rfl⟩ := e
            refine ⟨Z, env, F, ok, er, i, p0, w0, hpl, fun x H1 g1 ok1 er1 pl1 => ?_⟩
            refine ⟨Z, env, F, ok1, er1, _, hfb, fun y H2 Z2 F2 G2 x2 ok2 er2 or2 pp => ?_⟩
            obtain ⟨rfl, rfl, rfl, g2⟩ := pp rfl
            have ry := or2.look ok2.sub er2 hd
            obtain ⟨v, hg, pl3⟩ := (pl1.grown g2).kidD ry hkid
            exact hg _ (post v H2 (fun b o z => g2 b o (g1 b o z)) ok2.left er2 pl3)
          · cases e
        · cases e
      · cases e
    · cases e
/-! ### e.f as a place -/
def idxF (f : Str) : List Str → Option Nat
  | [] => none
  | g :: r => if f == g then some 0 else (idxF f r).map (· + 1)
theorem idxF_look {f : Str} : ∀ {fs : List (Str × V)} {n : Nat} {v : V}, idxF f (fs.map (·.1)) = some n → (fs.map (·.2))[n]? = some v → fs.lookup f = some v
  | [], _, _, h, _ => by simp [idxF] at h
  | (g, y) :: r, n, v, h, e => by
    rw [List.lookup_cons]
    simp only [List.map_cons, idxF] at h
    cases hg : f == g
    · rw [hg] at h
      simp only [Bool.false_eq_true, if_false] at h
      obtain ⟨m, h1, rfl⟩ := Option.map_eq_some_iff.mp h
      exact idxF_look h1 (by simpa using e)
    · rw [hg] at h
      simp at h; subst h
      simpa using e
def plFld (C : Addr) (f : Str) (pl : PlM) : PlM := fun env => match pl env with
  | some (i, p, .obj C' ns ts) => if C' = C then match idxF f ns with
    | some n => match ts[n]? with
      | some t => some (i, p ++ [n], t)
      | none => none
    | none => none
    else none
  | _ => none
theorem plq_fld {X : Cx} {e : Expr} {pos : Pos} {pl : PlM} {f : Str} {C : Addr} {fs : List Str} (T : ClsAt X.K C fs) (hf : f ∈ fs) (ha : PLQ X e pl) (hb : attributeBase e f X.env (eval e X.env) = eval e X.env := by rfl) : PLQ X (.Attribute e f pos) (plFld C f pl) :=
  (pe_fld ha hb).imp fun σ H Q ⟨Z, env, F, ok, er, j, p, w, e, post⟩ => by
    unfold plFld at e
    split at e
    · rename_i i p0 C' ns ts hpl
      split at e
      · rename_i hC
        subst hC
        split at e
        · rename_i n hn
          split at e
          · rename_i t ht
            simp only [Option.some.injEq, Prod.mk.injEq] at e
            obtain ⟨rfl, rfl, rfl⟩ := e
            refine ⟨Z, env, F, ok, er, i, p0, _, hpl, fun x H1 g1 ok1 er1 pl1 => ?_⟩
            obtain ⟨a, dx, gs, y, rfl, hH, rfl, hv, pl3⟩ := pl1.kidObj ht
            exact ⟨a, C', dx, gs, y, rfl, hH, T.cls, T.na f hf, idxF_look hn hv, post y H1 g1 ok1 er1 pl3⟩
          · cases e
        · cases e
      · cases e
    · cases e
/-! ### a node is written -/
theorem node_write {K : PySem.W.Frag} {Z H : Hp} {env : En} {σ : L2.St} {A B G Ft : List Addr} {i : Nat} {p : List Nat} {w' u : T} {a : Addr} (ok : Ok Z H ((A ++ (a :: Ft) ++ B) ++ G))
    (h5 : ∀ Z' H', (∀ a o, Z a = some o → Z' a = some o) → (∀ a xs, H a = some (.tup xs) → H' a = some (.tup xs)) → (∀ a ∈ A ++ B, ∀ o, H a = some o → H' a = some o) →
      ∀ w' G, RepT K Z' H' w' (.ref a) G → EnvR K Z' H' (env.set i (some (u.put p w'))) σ (A ++ G ++ B)) (nt : ∀ xs, ¬ H a = some (.tup xs))
    {o' : HO} (mo : Mut (some o')) {F' : List Addr} (hF : ∀ b ∈ F', b ∈ Ft ∨ b ∈ G) (nd : (Ft ++ G).Nodup → F'.Nodup)
    (r' : (∀ c xs, H c = some (.tup xs) → (upd H a o') c = some (.tup xs)) → (∀ b ∈ F', ∀ o, H b = some o → upd H a o' b = some o) → RepT K Z (upd H a o') w' (.ref a) (a :: F')) :
    ∃ F2, Ext Z H ((A ++ (a :: Ft) ++ B) ++ G) Z (upd H a o') F2 ∧ Ok Z (upd H a o') F2 ∧ EnvR K Z (upd H a o') (env.set i (some (u.put p w'))) σ F2 := by
  obtain ⟨tt, kp, ne, fin⟩ := node_upd (o' := o') ok mo nt
  have ndTG : (Ft ++ G).Nodup := by
    have nd := ok.nod
    simp only [List.append_assoc, List.nodup_append, List.mem_append, List.cons_append, List.nodup_cons, List.mem_cons] at nd
    obtain ⟨_, ⟨_, ndT, ndBG, dT⟩, _⟩ := nd
    exact List.nodup_append.mpr ⟨ndT, ndBG.2.1, fun b hb c hc e => dT b hb c (.inr hc) e⟩
  obtain ⟨x5, ok5⟩ := fin F' hF (nd ndTG)
  exact ⟨_, x5, ok5, h5 Z (upd H a o') (fun _ _ h => h) tt kp w' (a :: F') (r' tt fun b hb o h => by
    rw [upd_ne (ne b (by
      rcases hF b hb with z | z
      · exact List.mem_append_left _ z
      · exact List.mem_append_right _ z))]
    exact h)⟩
theorem Ok.grow0 {Z H H' : Hp} {F : List Addr} (ok : Ok Z H F) (g : Grow H H') : Ok Z H' F := by
  have := ok.grown (G' := []) g (fun _ h => nomatch h) List.nodup_nil (fun _ h => nomatch h)
  simpa using this
theorem RepT.grown {K : PySem.W.Frag} {Z H H' : Hp} {t : T} {v : V} {F : List Addr} (r : RepT K Z H t v F) (g : Grow H H') : RepT K Z H' t v F := r.keep (fun _ _ h => h) g.tt fun a _ o h => g a o h
theorem Ext.grow0 {Z H H' : Hp} {F : List Addr} (g : Grow H H') : Ext Z H F Z H' F := ⟨fun _ _ h => h, fun a o h _ => g a o h, fun a h => .inl h, fun _ _ h => .inl h⟩
/-! ### P[k] = e -/
def putD (w : T) (kd : D) (t : T) : Option T := match w with
  | .lst ts => match kd with
    | .int k => match ixN ts.length k with
      | some n => some (.lst (ts.set n t))
      | none => none
    | _ => none
  | .dic b ks ts => if keyOk b kd = true then match idxK kd ks with
    | some n => if ts.length < sizeLine then some (.dic b ks (ts.set n t)) else none
    | none => if ts.length < sizeLine then some (.dic b (ks ++ [kd]) (ts ++ [t])) else none
    else none
  | _ => none
def rSetD : V → V → V → Hp → (Hp → Prop) → Prop := fun o i v H Q => ∃ a H4, o = .ref a ∧ DPut H a i v H4 ∧ Q H4
theorem set_dict {X : Cx} (hu : X.A.units + 1 < cLine) : PSet X rSetD := by
  intro pins s σ H o i v ov iv u Q I ro ri rv h
  obtain ⟨a, H4, rfl, g, q⟩ := h
  obtain rfl : ov = Value.ref a := ro
  exact d_setItem hu I g ri rv fun s' I' => ⟨H4, I', q⟩
def rSetA : V → V → V → Hp → (Hp → Prop) → Prop := fun o i v H Q => rSetL o i v H Q ∨ rSetD o i v H Q
theorem set_any {X : Cx} (hu : X.A.units + 1 < cLine) : PSet X rSetA := by
  intro pins s σ H o i v ov iv u Q I ro ri rv h
  rcases h with h | h
  · exact set_list pins s σ H o i v ov iv u Q I ro ri rv h
  · exact set_dict hu pins s σ H o i v ov iv u Q I ro ri rv h
theorem RepTs.setG {K : PySem.W.Frag} {Z H : Hp} {t : T} {v : V} {G : List Addr} (a : RepT K Z H t v G) : ∀ {ts : List T} {vs : List V} {F : List Addr}, RepTs K Z H ts vs F → ∀ {j : Nat}, j < ts.length →
    ∃ F', RepTs K Z H (ts.set j t) (vs.set j v) F' ∧ (∀ b ∈ F', b ∈ F ∨ b ∈ G) ∧ ((F ++ G).Nodup → F'.Nodup)
  | [], _, _, _, j, h => by simp at h
  | t0 :: ts, _, _, r, j, h => by
    cases r with
    | @cons _ v0 _ vs0 F0 F1 r0 r1 =>
      cases j with
      | zero =>
        refine ⟨G ++ F1, .cons a r1, fun b hb => ?_, fun h => ?_⟩
        · rcases List.mem_append.mp hb with h | h
          · exact .inr h
          · exact .inl (List.mem_append_right _ h)
        · rw [List.append_assoc] at h
          have h2 := (List.nodup_append.mp h).2.1
          exact (List.perm_append_comm.nodup_iff).mp h2
      | succ j =>
        obtain ⟨F', r', hm, hn⟩ := RepTs.setG a r1 (j := j) (by simpa using h)
        refine ⟨F0 ++ F', .cons r0 r', fun b hb => ?_, fun h => ?_⟩
        · rcases List.mem_append.mp hb with h | h
          · exact .inl (List.mem_append_left _ h)
          · rcases hm b h with h | h
            · exact .inl (List.mem_append_right _ h)
            · exact .inr h
        · rw [List.append_assoc] at h
          obtain ⟨h1, h2, h3⟩ := List.nodup_append.mp h
          exact List.nodup_append.mpr ⟨h1, hn h2, fun b hb c hc e => h3 b hb c (by
            rcases hm c hc with z | z
            · exact List.mem_append_left _ z
            · exact List.mem_append_right _ z) e⟩
theorem idx_nin {κ : Type} [DecidableEq κ] {e : κ → D} (he : ∀ a b, keq (e a) (e b) = decide (a = b)) {k : κ} {kvs : List (κ × V)} (hi : idxK (e k) (kvs.map fun p => e p.1) = none) : k ∉ kvs.map (·.1) := by
  intro hm
  have := idx_none he hi
  obtain ⟨p, hp, rfl⟩ := List.mem_map.mp hm
  have h2 : (kvs.any fun kv => decide (kv.1 = p.1)) = true := List.any_eq_true.mpr ⟨p, hp, by simp⟩
  rw [valV_any, this] at h2
  cases h2
/-- a dict's node with another value -/
theorem dic_old {K : PySem.W.Frag} {Z H : Hp} {b : Bool} {o : HO} {ks : List D} {vs : List V} {a : Addr} {kd : D} {y v : V} {m : Nat} (h : H a = some o) (n : DicN b o ks vs) (ry : Rep K Z H kd y) (hk : keyOk b kd = true) (hl : vs.length < sizeLine) (hm : idxK kd ks = some m) :
    ∃ o', DPut H a y v (upd H a o') ∧ Mut (some o') ∧ DicN b o' ks (vs.set m v) := by
  cases b with
  | false =>
    obtain ⟨kvs, rfl, rfl, rfl, nd⟩ := n
    simp only [keyOk, Option.isSome_iff_exists] at hk
    obtain ⟨k, hk⟩ := hk
    have := dKey_eq hk
    subst this
    have := rep_key ry
    subst this
    simp only [List.length_map] at hl
    obtain ⟨e1, e2⟩ := put_old (v := v) keq_key nd hm
    refine ⟨_, DPut.k h hl, trivial, _, rfl, ?_, ?_, ?_⟩
    · have := keys_map kvs k v
      rw [← e1] at this
      have := congrArg (List.map keyD) this
      rw [List.map_map, List.map_map] at this
      exact this.symm
    · rw [e1]; exact e2.symm
    · rw [e1, keys_map]; exact nd
  | true =>
    obtain ⟨kvs, rfl, rfl, rfl, nd⟩ := n
    cases kd with
    | tup ds =>
      simp only [keyOk, Option.isSome_iff_exists] at hk
      obtain ⟨k, hk⟩ := hk
      have := dKeys_eq hk
      subst this
      cases ry with
      | tup hb rr =>
        have := reps_keys rr
        subst this
        simp only [List.length_map] at hl
        obtain ⟨e1, e2⟩ := put_old (v := v) keq_keys nd hm
        refine ⟨_, DPut.t h hb hl, trivial, _, rfl, ?_, ?_, ?_⟩
        · have := keys_map kvs k v
          rw [← e1] at this
          have := congrArg (List.map fun k : List Key => D.tup (k.map keyD)) this
          rw [List.map_map, List.map_map] at this
          exact this.symm
        · rw [e1]; exact e2.symm
        · rw [e1, keys_map]; exact nd
    | _ => simp at hk
/-- .. with one pair more -/
theorem dic_new {K : PySem.W.Frag} {Z H : Hp} {b : Bool} {o : HO} {ks : List D} {vs : List V} {a : Addr} {kd : D} {y v : V} (h : H a = some o) (n : DicN b o ks vs) (ry : Rep K Z H kd y) (hk : keyOk b kd = true) (hl : vs.length < sizeLine) (hm : idxK kd ks = none) :
    ∃ o', DPut H a y v (upd H a o') ∧ Mut (some o') ∧ DicN b o' (ks ++ [kd]) (vs ++ [v]) := by
  cases b with
  | false =>
    obtain ⟨kvs, rfl, rfl, rfl, nd⟩ := n
    simp only [keyOk, Option.isSome_iff_exists] at hk
    obtain ⟨k, hk⟩ := hk
    have := dKey_eq hk
    subst this
    have := rep_key ry
    subst this
    simp only [List.length_map] at hl
    refine ⟨_, DPut.k h hl, trivial, _, rfl, ?_, ?_, ?_⟩
    · rw [put_new keq_key hm]; simp
    · rw [put_new keq_key hm]; simp
    · rw [put_new keq_key hm, List.map_append, List.map_cons, List.map_nil]
      exact List.nodup_append.mpr ⟨nd, by simp, fun x hx y hy e => by
        rw [List.mem_singleton.mp hy] at e
        subst e
        exact idx_nin keq_key hm hx⟩
  | true =>
    obtain ⟨kvs, rfl, rfl, rfl, nd⟩ := n
    cases kd with
    | tup ds =>
      simp only [keyOk, Option.isSome_iff_exists] at hk
      obtain ⟨k, hk⟩ := hk
      have := dKeys_eq hk
      subst this
      cases ry with
      | tup hb rr =>
        have := reps_keys rr
        subst this
        simp only [List.length_map] at hl
        refine ⟨_, DPut.t h hb hl, trivial, _, rfl, ?_, ?_, ?_⟩
        · rw [put_new keq_keys hm]; simp
        · rw [put_new keq_keys hm]; simp
        · rw [put_new keq_keys hm, List.map_append, List.map_cons, List.map_nil]
          exact List.nodup_append.mpr ⟨nd, by simp, fun x hx y hy e => by
            rw [List.mem_singleton.mp hy] at e
            subst e
            exact idx_nin keq_keys hm hx⟩
    | _ => simp at hk
theorem dic_len {b : Bool} {o : HO} {ks : List D} {vs : List V} (n : DicN b o ks vs) : ks.length = vs.length := by
  cases b with
  | false => obtain ⟨kvs, _, rfl, rfl, _⟩ := n; simp
  | true => obtain ⟨kvs, _, rfl, rfl, _⟩ := n; simp
/-- what is put at a place's key -/
theorem Pl.putD {K : PySem.W.Frag} {Z H : Hp} {env : En} {σ : L2.St} {F G : List Addr} {i : Nat} {p : List Nat} {w w' t u : T} {x y v : V} {kd : D} (ok : Ok Z H (F ++ G)) (h : Pl K Z H env σ F i p w x) (hu : env[i]? = some (some u)) (rt : RepT K Z H t v G) (ry : Rep K H H kd y) (e : DL.putD w kd t = some w')
    {Q : Hp → Prop} (hq : ∀ H' F2, Ext Z H (F ++ G) Z H' F2 → Ok Z H' F2 → EnvR K Z H' (env.set i (some (u.put p w'))) σ F2 → Q H') : rSetA x y v H Q := by
  unfold DL.putD at e
  split at e
  · rename_i ts
    split at e
    · rename_i k
      split at e
      · rename_i n hn
        cases e
        obtain ⟨u', A, Fi, B, h1, h2, h3, h4, h5⟩ := h
        rw [hu] at h1
        cases h1
        have := ry.v_int
        subst this
        cases h4 with
        | @lst a vs _ Ft ha rr =>
          subst h3
          have hl := rr.length
          obtain ⟨_, hlt, _, _⟩ := ixN_seq hn
          obtain ⟨F', r', hm, hnd⟩ := rr.setG rt hlt
          refine .inl ⟨a, vs, k, n, rfl, rfl, ha, by rw [← hl]; exact hn, ?_⟩
          obtain ⟨F2, x2, ok2, er2⟩ := node_write (o' := .lst (vs.set n v)) (w' := .lst (ts.set n t)) (F' := F') ok h5 (fun xs z => by rw [ha] at z; cases z) trivial hm hnd (fun tt ne => .lst upd_same (r'.keep (fun _ _ h => h) tt ne))
          exact hq _ F2 x2 ok2 er2
      · cases e
    · cases e
  · rename_i b ks ts
    split at e
    · rename_i hk
      obtain ⟨u', A, Fi, B, h1, h2, h3, h4, h5⟩ := h
      rw [hu] at h1
      cases h1
      cases h4 with
      | @dic a o _ _ vs _ Ft ha hn rr =>
        subst h3
        have hl := rr.length
        split at e
        · rename_i n hi
          split at e
          case isFalse => cases e
          rename_i hsz
          cases e
          have hlt : n < ts.length := by
            have := idxK_lt hi
            rw [dic_len hn] at this
            omega
          obtain ⟨F', r', hm, hnd⟩ := rr.setG rt hlt
          obtain ⟨o', g, mo, h6⟩ := dic_old (v := v) ha hn ry hk (by rw [← hl]; exact hsz) hi
          obtain ⟨F2, x2, ok2, er2⟩ := node_write (o' := o') (w' := .dic b ks (ts.set n t)) (F' := F') ok h5 (fun xs z => by rw [ha] at z; cases z; cases b <;> (obtain ⟨_, z, _⟩ := hn; cases z)) mo hm hnd (fun tt ne => .dic upd_same h6 (r'.keep (fun _ _ h => h) tt ne))
          exact .inr ⟨a, _, rfl, g, hq _ F2 x2 ok2 er2⟩
        · rename_i hi
          split at e
          · rename_i hlt
            cases e
            obtain ⟨o', g, mo, h6⟩ := dic_new (v := v) ha hn ry hk (by rw [← hl]; exact hlt) hi
            obtain ⟨F2, x2, ok2, er2⟩ := node_write (o' := o') (w' := .dic b (ks ++ [kd]) (ts ++ [t])) (F' := Ft ++ G) ok h5 (fun xs z => by rw [ha] at z; cases z; cases b <;> (obtain ⟨_, z, _⟩ := hn; cases z)) mo (fun b hb => List.mem_append.mp hb) id (fun tt ne => .dic upd_same h6 ((rr.snoc rt).keep (fun _ _ h => h) tt ne))
            exact .inr ⟨a, _, rfl, g, hq _ F2 x2 ok2 er2⟩
          · cases e
    · cases e
  · cases e
end DL

/-! DL28: P[k] = e, P[k] += e, P.f = e, P.f += e; freezing; in, len, get; new dicts. -/
namespace DL
open PySem PySem.Spec PyProof.Rows L2
def sPutP (pl : PlM) (fe fk : EM Opd) : SM := fun env => match fe env with
  | none => none
  | some (.ex x e) => some (.ex x e)
  | some (.ok o e) => match o.take e with
    | none => none
    | some (t, e') => match pl e' with
      | some (i, p, w) => match fk e' with
        | some (.ok ok _) => match ok.rd e' with
          | some kd => match putD w kd t with
            | some w' => match e'[i]? with
              | some (some u) => some (.nx (e'.set i (some (u.put p w'))))
              | _ => none
            | none => none
          | none => none
        | _ => none
      | none => none
section
variable {K : PySem.W.Frag} {W : WX} {P : List Nat} {D : Ends} {σ : L2.St} {H : Hp} {pl : PlM} {fe fk : EM Opd}
theorem putP_ok (q : tS K W P (sPutP pl fe fk) D σ H) : tAsg (tQ K W false fe) (gSub (tPl K pl) (tQ K W true fk) rSetA) D σ H := by
  obtain ⟨Z, env, F, ok, er, o, ho, post⟩ := q
  unfold sPutP at ho
  split at ho
  · cases ho
  · rename_i x e hf
    cases ho
    exact ⟨Z, env, F, ok, er, _, hf, fun d H' Z' F' a b c f => post d σ H' Z' F' a b c f Pin.refl⟩
  · rename_i o1 e hf
    split at ho
    · cases ho
    · rename_i t e' ht
      split at ho
      · rename_i i p w hpl
        split at ho
        · rename_i okk e3 hfk
          split at ho
          · rename_i kd hkd
            split at ho
            · rename_i w' hw'
              split at ho
              · rename_i u hu
                cases ho
                refine ⟨Z, env, F, ok, er, _, hf, fun y H1 Z1 F1 G1 x1 ok1 er1 or1 _ => ?_⟩
                obtain ⟨Z2, F2, G2, x2, ok2, er2, r2⟩ := take_ok ok1 er1 or1 ht
                refine ⟨Z2, e', F2, ok2.left, er2, i, p, w, hpl, fun xo H3 g3 ok3 er3 pl3 => ?_⟩
                refine ⟨Z2, e', F2, ok3, er3, _, hfk, fun yk H4 Z4 F4 G4 x4 ok4 er4 or4 pp => ?_⟩
                obtain ⟨rfl, rfl, rfl, g4⟩ := pp rfl
                have gg : Grow H1 H4 := fun a u h => g4 a u (g3 a u h)
                refine (pl3.grown g4).putD (ok2.grow0 gg) hu (r2.grown gg) (or4.look ok4.sub er4 hkd) hw' fun H' F5 x5 ok5 er5 => ?_
                exact post σ _ _ F5 (((x1.trans x2).trans (Ext.grow0 gg)).trans x5) ok5 er5 Pin.refl
              · cases ho
            · cases ho
          · cases ho
        · cases ho
      · cases ho
end
theorem psq_putP {X : Cx} {W : WX} {P : List Nat} {o e e2 : Expr} {p2 pos : Pos} {pl : PlM} {fe fk : EM Opd} {pa : Bool} {k : Nat} (hr : Room k X.A) (hx : PLQ X o pl) (hk : PQ X W true e2 fk) (he : PQ X W pa e fe)
    (ha : ∀ v, assign (.Subscript o e2 p2) X.env v = (do
      let ov ← holding [v] (eval o X.env)
      let iv ← holding [v, ov] (eval e2 X.env)
      standAt p2
      holding [v, ov, iv] (setItem ov iv v)
      release [v, ov, iv] []) := by intro _; rfl)
    (hs : swapsWithSole [.Subscript o e2 p2] e pos.line X.env = pure false := by rfl) (hw : swappedStores [.Subscript o e2 p2] e X.env = pure none := by rfl)
    (h1 : (assignEach [.Subscript o e2 p2] X.env).map (·.2) = [assign (.Subscript o e2 p2) X.env] := by rfl) :
    PSQ X W P (.Assign [.Subscript o e2 p2] e pos) (sPutP pl fe fk) :=
  (ps_asg (he.imp fun _ _ _ z => tQ_any z : PQ X W false e fe) (pg_sub hx hk (set_any (hu_of hr)) ha) hs hw h1).imp fun D σ H q => putP_ok q
/-! ### P[k] op= e, ints -/
theorem get_list {X : Cx} : PGet X (rIxL X.K) := by
  intro pins s σ H x y v u Q I rx ry h
  obtain ⟨p, xs, i, z, rfl, rfl, hq, he, q⟩ := h
  cases rx
  obtain ⟨t, rfl⟩ := ry
  obtain ⟨its, r, pl, hz⟩ := I.list hq
  obtain ⟨j, h1, h2, h3, h4, h5⟩ := L2.atI_get he
  obtain ⟨w, ew, rw'⟩ := r.get h2
  have hl := r.length
  have hn := line63
  have fin : EP X pins σ Q w s := ⟨z, H, I, rw', q⟩
  by_cases h0 : 0 ≤ i
  · have hj : i.toNat = j := by
      rw [seqIndex_of h0 h5] at h1
      exact Option.some.inj h1
    exact wpAny_getItem_list pl.isList h0 (by omega) (by rw [hj]; simpa using ew) fin
  · have hj : (i + (its.toArray.size : Int)).toNat = j := by
      rw [seqIndex_neg (by omega) h4] at h1
      rw [List.size_toArray, ← hl]
      exact Option.some.inj h1
    exact wpAny_getItem_list_neg pl.isList (by omega) (by rw [List.size_toArray] <;> omega) (by omega) (by rw [hj]; simpa using ew) fin
theorem get_dict {X : Cx} (hu : X.A.units + 1 < cLine) : PGet X rDGet := by
  intro pins s σ H x y v u Q I rx ry h
  obtain ⟨a, w, rfl, g, q⟩ := h
  obtain rfl : v = Value.ref a := rx
  exact d_getItem hu I g ry fun w' s' I' rw' => ⟨w, H, I', rw', q⟩
theorem get_any {X : Cx} (hu : X.A.units + 1 < cLine) : PGet X (rGet X.K) := by
  intro pins s σ H x y v u Q I rx ry h
  rcases h with h | h
  · exact get_list pins s σ H x y v u Q I rx ry h
  · exact get_dict hu pins s σ H x y v u Q I rx ry h
def sAugP (f : Int → Int → Int) (pl : PlM) (fk fe : EM Opd) : SM := fun env => match pl env with
  | some (i, p, w) => match fk env with
    | some (.ok ok _) => match ok.rd env with
      | some kd => match kidD w kd with
        | some (_, .z (.int a)) => match fe env with
          | some (.ok oe _) => match oe.rd env with
            | some (.int b) => match putD w kd (.z (.int (f a b))) with
              | some w' => match env[i]? with
                | some (some u) => some (.nx (env.set i (some (u.put p w'))))
                | _ => none
              | none => none
            | _ => none
          | _ => none
        | _ => none
      | none => none
    | _ => none
  | none => none
section
variable {K : PySem.W.Frag} {W : WX} {P : List Nat} {D : Ends} {σ : L2.St} {H : Hp} {pl : PlM} {fe fk : EM Opd} {f : Int → Int → Int}
theorem Pl.val {Z : Hp} {env : En} {F : List Addr} {i : Nat} {p : List Nat} {x : V} {d : DL.D} (h : Pl K Z H env σ F i p (.z d) x) : Rep K Z H d x := by
  obtain ⟨_, _, _, _, _, _, _, h4, _⟩ := h
  cases h4 with
  | z r => exact r
theorem augP_ok (q : tS K W P (sAugP f pl fk fe) D σ H) : tAugS (tPl K pl) (tQ K W true fk) (tQ K W true fe) (rGet K) (ipI f) rSetA D σ H := by
  obtain ⟨Z, env, F, ok, er, o, ho, post⟩ := q
  unfold sAugP at ho
  split at ho
  · rename_i i p w hpl
    split at ho
    · rename_i okk e3 hfk
      split at ho
      · rename_i kd hkd
        split at ho
        · rename_i n a hkid
          split at ho
          · rename_i oe e4 hfe
            split at ho
            · rename_i b hb
              split at ho
              · rename_i w' hw'
                split at ho
                · rename_i u hu
                  cases ho
                  refine ⟨Z, env, F, ok, er, i, p, w, hpl, fun xo H3 g3 ok3 er3 pl3 => ?_⟩
                  refine ⟨Z, env, F, ok3, er3, _, hfk, fun yk H4 Z4 F4 G4 x4 ok4 er4 or4 pp => ?_⟩
                  obtain ⟨rfl, rfl, rfl, g4⟩ := pp rfl
                  have rk := or4.look ok4.sub er4 hkd
                  obtain ⟨v, hg, plk⟩ := (pl3.grown g4).kidD rk hkid
                  have := plk.val.v_int
                  subst this
                  refine hg _ ?_
                  refine ⟨Z4, e3, F4, ok4.left, er4, _, hfe, fun ye H5 Z5 F5 G5 x5 ok5 er5 or5 pp5 => ?_⟩
                  obtain ⟨rfl, rfl, rfl, g5⟩ := pp5 rfl
                  have := (or5.look ok5.sub er5 hb).v_int
                  subst this
                  have g35 : Grow H H5 := fun a u h => g5 a u (g4 a u (g3 a u h))
                  refine ⟨a, b, rfl, rfl, ?_⟩
                  refine ((pl3.grown g4).grown g5).putD (G := []) (by simpa using ok5.left) hu (.z .int) (rk.mono (fun a u h => g5 a u h) g5.tt) hw' fun H' F6 x6 ok6 er6 => ?_
                  have x0 := (Ext.grow0 (Z := Z5) (F := F5) g35).trans (by simpa using x6)
                  exact post σ _ _ F6 x0 ok6 er6 Pin.refl
                · cases ho
              · cases ho
            · cases ho
          · cases ho
        · cases ho
      · cases ho
    · cases ho
  · cases ho
end
theorem psq_augP {X : Cx} {W : WX} {P : List Nat} {o e e2 : Expr} {p2 pos : Pos} {pl : PlM} {fe fk : EM Opd} {k : Nat} {op : Operator} {f : Int → Int → Int} (hp : PIp X op (ipI f)) (hr : Room k X.A) (hx : PLQ X o pl) (hk : PQ X W true e2 fk) (he : PQ X W true e fe)
    (ha : ∀ ov iv new, augStore e2 ov iv new = (do holding [new, ov, iv] (setItem ov iv new); release [new, ov, iv] []; pure .next) := by intros; rfl) :
    PSQ X W P (.AugAssign (.Subscript o e2 p2) op e pos) (sAugP f pl fk fe) :=
  (ps_augS hx hk (get_any (hu_of hr)) he hp (set_any (hu_of hr)) ha).imp fun D σ H q => augP_ok q
/-! ### P.f = e, P.f op= e -/
def sFldP (C : Addr) (f : Str) (pl : PlM) (fe : EM Opd) : SM := fun env => match fe env with
  | none => none
  | some (.ex x e) => some (.ex x e)
  | some (.ok o e) => match o.take e with
    | none => none
    | some (t, e') => match pl e' with
      | some (i, p, .obj C' ns ts) => if C' = C ∧ ns.length < 1000 then match e'[i]? with
        | some (some u) => some (.nx (e'.set i (some (u.put p (.obj C (putK f ns) (putX f t ns ts))))))
        | _ => none
        else none
      | _ => none
/-- a field of an object's node is stored -/
theorem Pl.store {K : PySem.W.Frag} {Z H : Hp} {env : En} {σ : L2.St} {F G : List Addr} {i : Nat} {p : List Nat} {C : Addr} {ns : List Str} {ts : List T} {t u : T} {x v : V} {f : Str} (ok : Ok Z H (F ++ G)) (h : Pl K Z H env σ F i p (.obj C ns ts) x) (hu : env[i]? = some (some u)) (rt : RepT K Z H t v G)  :
    ∃ a dx fs, x = .ref a ∧ H a = some (.ins C dx fs) ∧ fs.map (·.1) = ns ∧ ∃ F2, Ext Z H (F ++ G) Z (upd H a (.ins C dx (putF f v fs))) F2 ∧ Ok Z (upd H a (.ins C dx (putF f v fs))) F2 ∧
      EnvR K Z (upd H a (.ins C dx (putF f v fs))) (env.set i (some (u.put p (.obj C (putK f ns) (putX f t ns ts))))) σ F2 := by
  obtain ⟨u', A, Fi, B, h1, h2, h3, h4, h5⟩ := h
  rw [hu] at h1
  cases h1
  cases h4 with
  | @obj a _ dx fs _ _ Ft ha hn rr =>
    subst h3
    subst hn
    obtain ⟨F', r', hm, hnd⟩ := putF_reps (f := f) rt rr
    refine ⟨a, dx, fs, rfl, ha, rfl, ?_⟩
    exact node_write (o' := .ins C dx (putF f v fs)) (w' := .obj C (putK f (fs.map (·.1))) (putX f t (fs.map (·.1)) ts)) (F' := F') ok h5 (fun xs z => by rw [ha] at z; cases z) trivial hm hnd (fun tt ne => .obj upd_same (putF_keys f v fs) (r'.keep (fun _ _ h => h) tt ne))
section
variable {K : PySem.W.Frag} {W : WX} {P : List Nat} {D : Ends} {σ : L2.St} {H : Hp} {pl : PlM} {fe : EM Opd} {C : Addr} {f : Str}
theorem fldP_ok (c : Cls K C) (n : NoAttr K C f) (q : tS K W P (sFldP C f pl fe) D σ H) : sFld K (tPl K pl) (tQ K W false fe) f D σ H := by
  obtain ⟨Z, env, F, ok, er, o, ho, post⟩ := q
  unfold sFldP at ho
  split at ho
  · cases ho
  · rename_i x e hf
    cases ho
    exact ⟨Z, env, F, ok, er, _, hf, fun d H' Z' F' a b c f => post d σ H' Z' F' a b c f Pin.refl⟩
  · rename_i o1 e hf
    split at ho
    · cases ho
    · rename_i t e' ht
      split at ho
      · rename_i i p C' ns ts hpl
        split at ho
        · rename_i hc
          obtain ⟨rfl, hl⟩ := hc
          split at ho
          · rename_i u hu
            cases ho
            refine ⟨Z, env, F, ok, er, _, hf, fun y H1 Z1 F1 G1 x1 ok1 er1 or1 _ => ?_⟩
            obtain ⟨Z2, F2, G2, x2, ok2, er2, r2⟩ := take_ok ok1 er1 or1 ht
            refine ⟨Z2, e', F2, ok2.left, er2, i, p, _, hpl, fun xo H3 g3 ok3 er3 pl3 => ?_⟩
            obtain ⟨a, dx, fs, rfl, ha, rfl, F4, x4, ok4, er4⟩ := pl3.store (f := f) (ok2.grow0 g3) hu (r2.grown g3)
            exact ⟨a, C', dx, fs, rfl, ha, c, n, by simpa using hl, post σ _ _ F4 (((x1.trans x2).trans (Ext.grow0 g3)).trans x4) ok4 er4 Pin.refl⟩
          · cases ho
        · cases ho
      · cases ho
end
theorem psq_fldP {X : Cx} {W : WX} {P : List Nat} {o : Expr} {pos' pos : Pos} {value : Expr} {p : Bool} {f : Str} {fe : EM Opd} {pl : PlM} {C : Addr} {fs : List Str} (T : ClsAt X.K C fs) (hf : f ∈ fs) (hx : PLQ X o pl) (he : PQ X W p value fe) (hs : swapsWith value (some (.Attribute o f pos')) pos.line X.env = pure false := by rfl) :
    PSQ X W P (.Assign [.Attribute o f pos'] value pos) (sFldP C f pl fe) :=
  (ps_fld hx (he.imp fun _ _ _ z => tQ_any z : PQ X W false value fe) hs).imp fun D σ H q => fldP_ok T.cls (T.na f hf) q
def sFldAugP (C : Addr) (f : Str) (g : Int → Int → Int) (pl : PlM) (fe : EM Opd) : SM := fun env => match pl env with
  | some (i, p, .obj C' ns ts) => if C' = C ∧ ns.length < 1000 then match idxF f ns with
    | some n => match ts[n]? with
      | some (.z (.int a)) => match fe env with
        | some (.ok oe _) => match oe.rd env with
          | some (.int b) => match env[i]? with
            | some (some u) => some (.nx (env.set i (some (u.put p (.obj C (putK f ns) (putX f (.z (.int (g a b))) ns ts))))))
            | _ => none
          | _ => none
        | _ => none
      | _ => none
    | none => none
    else none
  | _ => none
section
variable {K : PySem.W.Frag} {W : WX} {P : List Nat} {D : Ends} {σ : L2.St} {H : Hp} {pl : PlM} {fe : EM Opd} {C : Addr} {f : Str} {g : Int → Int → Int}
theorem fldAugP_ok (c : Cls K C) (n : NoAttr K C f) (q : tS K W P (sFldAugP C f g pl fe) D σ H) : sFldAug K (tPl K pl) (tQ K W true fe) (ipI g) f D σ H := by
  obtain ⟨Z, env, F, ok, er, o, ho, post⟩ := q
  unfold sFldAugP at ho
  split at ho
  · rename_i i p C' ns ts hpl
    split at ho
    · rename_i hc
      obtain ⟨rfl, hl⟩ := hc
      split at ho
      · rename_i m hm
        split at ho
        · rename_i a ht
          split at ho
          · rename_i oe e4 hfe
            split at ho
            · rename_i b hb
              split at ho
              · rename_i u hu
                cases ho
                refine ⟨Z, env, F, ok, er, i, p, _, hpl, fun xo H3 g3 ok3 er3 pl3 => ?_⟩
                obtain ⟨ad, dx, fs, y, rfl, hH, hfs, hv, plk⟩ := pl3.kidObj ht
                subst hfs
                have := plk.val.v_int
                subst this
                refine ⟨ad, C', dx, fs, _, rfl, hH, c, n, idxF_look hm hv, ?_⟩
                refine ⟨Z, env, F, ok3, er3, _, hfe, fun ye H5 Z5 F5 G5 x5 ok5 er5 or5 pp5 => ?_⟩
                obtain ⟨rfl, rfl, rfl, g5⟩ := pp5 rfl
                have := (or5.look ok5.sub er5 hb).v_int
                subst this
                have g35 : Grow H H5 := fun a u h => g5 a u (g3 a u h)
                refine ⟨a, b, rfl, rfl, ?_⟩
                obtain ⟨ad', dx', fs', e1, ha, e2, F4, x4, ok4, er4⟩ := (pl3.grown g5).store (f := f) (t := .z (.int (g a b))) (v := .int (g a b)) (G := []) (by simpa using ok5.left) hu (.z .int)
                cases e1
                have hl' : fs'.length < 1000 := by
                  have : fs'.length = fs.length := by rw [← List.length_map (f := Prod.fst), e2, List.length_map]
                  rw [this]; simpa using hl
                have x0 := (Ext.grow0 (Z := Z5) (F := F5) g35).trans (by simpa using x4)
                exact ⟨dx', fs', ha, hl', post σ _ _ F4 x0 ok4 er4 Pin.refl⟩
              · cases ho
            · cases ho
          · cases ho
        · cases ho
      · cases ho
    · cases ho
  · cases ho
end
theorem psq_fldAugP {X : Cx} {W : WX} {P : List Nat} {o : Expr} {pos' pos : Pos} {value : Expr} {f : Str} {fe : EM Opd} {pl : PlM} {C : Addr} {fs : List Str} {op : Operator} {g : Int → Int → Int} (hop : InOp X op (ipI g)) (T : ClsAt X.K C fs) (hf : f ∈ fs) (hx : PLQ X o pl) (he : PQ X W true value fe) :
    PSQ X W P (.AugAssign (.Attribute o f pos') op value pos) (sFldAugP C f g pl fe) :=
  (ps_fldaug hx he hop).imp fun D σ H q => fldAugP_ok T.cls (T.na f hf) q
theorem inop_add {X : Cx} : InOp X .Add (ipI fun i j => i + j) := fun pins s σ H x y u v Q I rx ry h => in_add pins s σ H x y u v Q I rx ry h
/-! ### a slot is frozen ahead of a step -/
def frzE (i : Nat) (env : En) : Option En := match env[i]? with
  | some (some u) => some (env.set i (some (.z u.er)))
  | _ => none
def sFz (i : Nat) (f : EM Opd) : EM Opd := fun env => match frzE i env with
  | some e => f e
  | none => none
def sFzS (i : Nat) (g : SM) : SM := fun env => match frzE i env with
  | some e => g e
  | none => none
theorem frz_ok {K : PySem.W.Frag} {Z H : Hp} {env e : En} {σ : L2.St} {F : List Addr} {i : Nat} (ok : Ok Z H F) (er : EnvR K Z H env σ F) (h : frzE i env = some e) : ∃ Z' F', Ext Z H F Z' H F' ∧ Ok Z' H F' ∧ EnvR K Z' H e σ F' := by
  unfold frzE at h
  split at h
  · rename_i u hu
    cases h
    obtain ⟨Z', F', v, h1, h2, h3, h4, _⟩ := freeze_ok (G := []) (by simpa using ok) er hu
    exact ⟨Z', F', by simpa using h2, by simpa using h3, h4⟩
  · cases h
theorem pq_fz {X : Cx} {W : WX} {e : Expr} {p : Bool} {f : EM Opd} (i : Nat) (h : PQ X W p e f) : PQ X W false e (sFz i f) := by
  refine (PE.imp h fun σ H Q z => tQ_any z : PQ X W false e f).imp fun σ H Q ⟨Z, env, F, ok, er, r, hr, post⟩ => ?_
  unfold sFz at hr
  split at hr
  · rename_i e' he
    obtain ⟨Z1, F1, x1, ok1, er1⟩ := frz_ok ok er he
    refine ⟨Z1, e', F1, ok1, er1, r, hr, ?_⟩
    cases r with
    | ok o env' => exact fun v H' Z' F' G a b c d _ => post v H' Z' F' G (x1.trans a) b c d fun z => nomatch z
    | ex x env' => exact fun d H' Z' F' a b c f => post d H' Z' F' (x1.trans a) b c f
  · cases hr
theorem psq_fz {X : Cx} {W : WX} {P : List Nat} {st : Stmt} {g : SM} (i : Nat) (h : PSQ X W P st g) : PSQ X W P st (sFzS i g) := by
  refine PS.imp h fun D σ H ⟨Z, env, F, ok, er, r, hr, post⟩ => ?_
  unfold sFzS at hr
  split at hr
  · rename_i e' he
    obtain ⟨Z1, F1, x1, ok1, er1⟩ := frz_ok ok er he
    exact ⟨Z1, e', F1, ok1, er1, r, hr, post.then x1 Pin.refl⟩
  · cases hr
/-! ### in, len, get -/
section
variable {X : Cx} {W : WX} {a b : Expr} {pos : Pos} {p1 p2 : Bool} {fa fb : EM Opd} {k : Nat}
abbrev oIn2 : En → List Opd → Option Opd := oElse (oDIn false) (oS gIn)
abbrev oNotIn2 : En → List Opd → Option Opd := oElse (oDIn true) (oS gNotIn)
theorem pq_in2 (hr : Room k X.A) (ha : PQ X W p1 a fa) (hb : PQ X W p2 b fb) (hm : behindInMarks .In b = false := by rfl) : PQ X W (p1 && p2) (.Compare a [.In] [b] pos) (sO oIn2 (sCons p2 fa (sCons true fb sNil))) := pq_cmp ((op_dIn (hu_of hr)).or ((op_inD (hu65 hr)).or op_in_seq)) (link_or link_dIn link_in) ha hb hm
theorem pq_notIn2 (hr : Room k X.A) (ha : PQ X W p1 a fa) (hb : PQ X W p2 b fb) (hm : behindInMarks .NotIn b = false := by rfl) : PQ X W (p1 && p2) (.Compare a [.NotIn] [b] pos) (sO oNotIn2 (sCons p2 fa (sCons true fb sNil))) := pq_cmp ((op_dNotIn (hu_of hr)).or ((op_notInD (hu65 hr)).or op_notIn_seq)) (link_or link_dIn link_notIn) ha hb hm
theorem ptq_in2 (hr : Room k X.A) (ha : PQ X W p1 a fa) (hb : PQ X W p2 b fb) (hm : behindInMarks .In b = false := by rfl) : PTQ X W (p1 && p2) (.Compare a [.In] [b] pos) (sTb (sO oIn2 (sCons p2 fa (sCons true fb sNil)))) := ptq_cmp ((op_dIn (hu_of hr)).or ((op_inD (hu65 hr)).or op_in_seq)) (link_or link_dIn link_in) ha hb hm
theorem ptq_notIn2 (hr : Room k X.A) (ha : PQ X W p1 a fa) (hb : PQ X W p2 b fb) (hm : behindInMarks .NotIn b = false := by rfl) : PTQ X W (p1 && p2) (.Compare a [.NotIn] [b] pos) (sTb (sO oNotIn2 (sCons p2 fa (sCons true fb sNil)))) := ptq_cmp ((op_dNotIn (hu_of hr)).or ((op_notInD (hu65 hr)).or op_notIn_seq)) (link_or link_dIn link_notIn) ha hb hm
end
theorem CallR.or {X : Cx} {f : Value} {r r' : List V → Hp → VK → Prop} (h : CallR X f r) (h' : CallR X f r') : CallR X f (fun xs H Q => r xs H Q ∨ r' xs H Q) := by
  intro pins s σ H xs us Q I rx q
  rcases q with q | q
  · exact h pins s σ H xs us Q I rx q
  · exact h' pins s σ H xs us Q I rx q
@[simp] def gLenD : List D → Option D
  | [.dic _ ks _] => some (.int ks.length)
  | _ => none
theorem DicN.lenr {H : Hp} {a : Addr} : ∀ {b : Bool} {o : HO} {ks : List D} {vs : List V}, DicN b o ks vs → H a = some o → (∃ kvs : List (Key × V), H a = some (.dK kvs) ∧ kvs.length = ks.length) ∨ ∃ kvs : List (List Key × V), H a = some (.dT kvs) ∧ kvs.length = ks.length
  | false, _, _, _, n, h => by
    obtain ⟨kvs, rfl, rfl, rfl, _⟩ := n
    exact .inl ⟨kvs, h, by simp⟩
  | true, _, _, _, n, h => by
    obtain ⟨kvs, rfl, rfl, rfl, _⟩ := n
    exact .inr ⟨kvs, h, by simp⟩
theorem link_lenD {K : PySem.W.Frag} : Link K (oS gLenD) (fun xs H Q => (∃ a kvs, xs = [V.ref a] ∧ H a = some (.dK kvs) ∧ Q (.int kvs.length) H) ∨ rLenT xs H Q) := by
  refine link_S fun H xs ds d Q r e q => ?_
  unfold gLenD at e
  split at e
  · obtain ⟨x, rfl, r1⟩ := r.one
    cases e
    cases r1 with
    | dic h n rr =>
      rcases n.lenr h with ⟨kvs, h2, e⟩ | ⟨kvs, h2, e⟩
      · exact .inl ⟨_, kvs, rfl, h2, by rw [e]; exact q⟩
      · exact .inr ⟨_, kvs, rfl, h2, by rw [e]; exact q⟩
  · cases e
abbrev oLen2 : En → List Opd → Option Opd := oElse (oS gLen) (oS gLenD)
theorem pq_len2 {X : Cx} {W : WX} {e : Expr} {p1 pos : Pos} {p : Bool} {f : EM Opd} (hg : Gl X "len") (hm : X.mg "len" = none) (he : PQ X W p e f) (hs : starEach [e] X.env = (false, eval e X.env) :: starEach [] X.env := by rfl) (hpl : (backTo pos (starEach [] X.env)).any (·.1) = false := by rfl) :
    PQ X W p (.Call (.Name "len" p1) [e] [] pos) (sO oLen2 (sCons true f sNil)) :=
  (pe_callB (call_len.or (call_lenD.or call_len_dT)) hg hm PySem.boot_len (pa_cons he pa_nil hs) (by decide) (by decide) hs hpl).imp fun _ _ _ h => one_ok (o_ok (link_or link_len link_lenD) h)
/-! ### {} -/
def sDNew (b : Bool) : EM Opd := fun env => some (.ok (.t (.dic b [] [])) env)
theorem pq_dnew {X : Cx} {W : WX} {pos : Pos} (b : Bool) : PQ X W true (.Dict [] [] pos) (sDNew b) := by
  have key : ∀ (o : HO), (∀ K Z H p, H p = some o → RepT K Z H (.dic b [] []) (.ref p) [p]) → ∀ σ H Q, tQ X.K W true (sDNew b) σ H Q → ∀ p, H p = none → Q (.ref p) (upd H p o) := fun o ho σ H Q ⟨Z, env, F, ok, er, r, hr, post⟩ p hp => by
    cases hr
    have g := grow_upd (o := o) hp
    have rt := ho X.K Z (upd H p o) p upd_same
    have ok' : Ok Z (upd H p o) (F ++ [p]) := ok.grown g (fresh1 hp) (by simp) rt.mu
    exact post (.ref p) (upd H p o) Z F [p] (Ext.grown g (fresh1 hp)) ok' (er.grown g) (.t rt) fun _ => ⟨rfl, rfl, rfl, g⟩
  cases b with
  | false => exact (pe_dnewK (X := X) (pos := pos)).imp fun σ H Q z => key (.dK []) (fun K Z H p h => .dic h ⟨[], rfl, rfl, rfl, by simp⟩ .nil) σ H Q z
  | true => exact (pe_dnewT (X := X) (pos := pos)).imp fun σ H Q z => key (.dT []) (fun K Z H p h => .dic h ⟨[], rfl, rfl, rfl, by simp⟩ .nil) σ H Q z
end DL

/-! DL29: methods of built-in types, get, index, chains, slices, all, any, ranges as values. -/
namespace DL
open PySem PySem.Spec PyProof.Rows L2
/-! ### a receiver whose kind is looked at -/
def sChk (c : En → Opd → Bool) (f : EM Opd) : EM Opd := fun env => match f env with
  | some (.ok o e) => if c e o = true then some (.ok o e) else none
  | r => r
theorem chk_ok {K : PySem.W.Frag} {W : WX} {p : Bool} {f : EM Opd} {c : En → Opd → Bool} {R : V → Hp → Prop} (hR : ∀ {σ : L2.St} {Z H : Hp} {F G : List Addr} {env : En} {o : Opd} {x : V}, Ok Z H (F ++ G) → EnvR K Z H env σ F → OpdR K Z H σ o x G → c env o = true → R x H)
    {σ : L2.St} {H : Hp} {Q : VK} (h : tQ K W p (sChk c f) σ H Q) : tQ K W p f σ H fun x H1 => R x H1 ∧ Q x H1 := by
  obtain ⟨Z, env, F, ok, er, r, hr, post⟩ := h
  unfold sChk at hr
  split at hr
  · rename_i o e hf
    split at hr
    · rename_i hc
      cases hr
      exact ⟨Z, env, F, ok, er, _, hf, fun v H' Z' F' G a b c d e => ⟨hR b c d hc, post v H' Z' F' G a b c d e⟩⟩
    · cases hr
  · rename_i h
    refine ⟨Z, env, F, ok, er, r, hr, ?_⟩
    cases r with
    | ok o e => exact (h o e hr).elim
    | ex x e => exact post
/-! ### lists by their methods -/
def cLst (env : En) (o : Opd) : Bool := match o.rd env with
  | some (.lst _) => true
  | some (.kls _) => true
  | _ => false
theorem cLst_ty {K : PySem.W.Frag} {σ : L2.St} {Z H : Hp} {F G : List Addr} {env : En} {o : Opd} {x : V} (ok : Ok Z H (F ++ G)) (er : EnvR K Z H env σ F) (r : OpdR K Z H σ o x G) (h : cLst env o = true) : tyV K "list" x H := by
  unfold cLst at h
  split at h
  · rename_i ds e
    have := r.look ok.sub er e
    cases this with
    | lst h _ => exact .inl ⟨rfl, _, SqL.of h⟩
  · rename_i ds e
    have := r.look ok.sub er e
    cases this with
    | kls h _ => exact .inl ⟨rfl, _, h⟩
  · cases h
theorem pq_bm {X : Cx} {W : WX} {o e : Expr} {es : List Expr} {apos cpos : Pos} {T id : String} {name : Str} {r : V → List V → Hp → VK → Prop} {c : En → Opd → Bool} {op : En → List Opd → Option Opd} {p1 p2 : Bool} {fa : EM Opd} {fr : EM (List Opd)}
    (pa : PlainAttrs T) (slot : Slot T name id) (hty : typeOf (.builtin id) = pure (.type "method_descriptor")) (hm : MtR X id r)
    (hR : ∀ {σ : L2.St} {Z H : Hp} {F G : List Addr} {env : En} {o : Opd} {x : V}, Ok Z H (F ++ G) → EnvR X.K Z H env σ F → OpdR X.K Z H σ o x G → c env o = true → tyV X.K T x H)
    (l : Link X.K op (fun xs H Q => r (xs.getD 0 .non) xs.tail H Q)) (ho : PQ X W p1 o fa) (ha : PAQ X W p2 (e :: es) fr)
    (hbase : attributeBase o name X.env (eval o X.env) = eval o X.env := by rfl)
    (hfew : ((backTo cpos (starEach (e :: es) X.env)).all (fun x => !x.1) && (backToKw cpos (keywordEach [] X.env)).all (fun x => x.1.isSome)
      && decide ((e :: es).length + ([] : List Keyword).length + (if ([] : List Keyword).isEmpty then 0 else 1) < 30)) = true := by rfl)
    (hline : (apos.endLine == cpos.line) = true := by rfl) (hs : starEach (e :: es) X.env = (false, eval e X.env) :: starEach es X.env := by rfl) (hplain : (backTo cpos (starEach es X.env)).any (·.1) = false := by rfl) :
    PQ X W (p1 && p2) (.Call (.Attribute o name apos) (e :: es) [] cpos) (sO op (sCons p2 (sChk c fa) fr)) :=
  (pe_bm pa slot hty hm ho ha hbase hfew hline hs hplain).imp fun σ H Q h => chk_ok hR (tQ_mono (cons_ok (o_ok l h)) fun v H1 z => z)
/-- the first place of an item -/
def idxE (d : D) : List D → Option Nat
  | [] => none
  | j :: js => if deq j d = true then some 0 else (idxE d js).map (· + 1)
theorem idxE_ok {d : D} : ∀ {ds : List D} {n : Nat}, idxE d ds = some n → ∃ z, (D.pys ds)[n]? = some z ∧ PyData.eqv z d.py = true ∧ ∀ (m : Nat) (z' : PyData), m < n → (D.pys ds)[m]? = some z' → PyData.eqv z' d.py = false
  | [], n, h => by simp [idxE] at h
  | j :: js, n, h => by
    unfold idxE at h
    split at h
    · rename_i hd
      cases h
      exact ⟨j.py, by simp [D.pys], hd, fun m z' hm => by omega⟩
    · rename_i hd
      obtain ⟨k, h1, rfl⟩ := Option.map_eq_some_iff.mp h
      obtain ⟨z, a, b, c⟩ := idxE_ok h1
      refine ⟨z, by simpa [D.pys] using a, b, fun m z' hm hz => ?_⟩
      cases m with
      | zero =>
        simp [D.pys] at hz
        subst hz
        simpa [deq] using hd
      | succ m => exact c m z' (by omega) (by simpa [D.pys] using hz)
@[simp] def gIndex : List D → Option D
  | [.lst ds, d] => if (D.shds 59 ds && d.shd 60) = true then match idxE d ds with
    | some n => some (.int n)
    | none => none
    else none
  | _ => none
theorem link_index {K : PySem.W.Frag} : Link K (oS gIndex) (fun xs H Q => rIndexD K (xs.getD 0 .non) xs.tail H Q) := by
  refine link_S fun H xs ds d Q r e q => ?_
  unfold gIndex at e
  split at e
  · rename_i ds d
    split at e
    · rename_i hs
      simp only [Bool.and_eq_true] at hs
      split at e
      · rename_i n hn
        cases e
        obtain ⟨x, y, rfl, r1, r2⟩ := r.two
        have hs1 : (D.lst ds).shd 60 = true := by rw [D.shd]; exact hs.1
        obtain ⟨z, h1, h2, h3⟩ := idxE_ok hn
        have hx := r1.dp hs1
        cases r1 with
        | lst h rr => exact ⟨_, _, d.py, D.pys ds, n, z, rfl, rfl, by simpa [D.py] using hx, r2.dp hs.2, by simpa [D.py] using shd_shaped hs1, shd_shaped hs.2, h1, h2, h3, q⟩
      · cases e
    · cases e
  · cases e
theorem pq_index {X : Cx} {W : WX} {o e : Expr} {apos cpos : Pos} {p1 p2 : Bool} {fa fb : EM Opd} {k : Nat} (hr : Room k X.A) (ho : PQ X W p1 o fa) (ha : PQ X W p2 e fb)
    (hbase : attributeBase o "index" X.env (eval o X.env) = eval o X.env := by rfl)
    (hfew : ((backTo cpos (starEach [e] X.env)).all (fun x => !x.1) && (backToKw cpos (keywordEach [] X.env)).all (fun x => x.1.isSome)
      && decide ([e].length + ([] : List Keyword).length + (if ([] : List Keyword).isEmpty then 0 else 1) < 30)) = true := by rfl)
    (hline : (apos.endLine == cpos.line) = true := by rfl) (hs : starEach [e] X.env = (false, eval e X.env) :: starEach [] X.env := by rfl) (hplain : (backTo cpos (starEach [] X.env)).any (·.1) = false := by rfl) :
    PQ X W (p1 && p2) (.Call (.Attribute o "index" apos) [e] [] cpos) (sO (oS gIndex) (sCons p2 (sChk cLst fa) (sCons true fb sNil))) := by
  have h := pq_bm (X := X) (W := W) (apos := apos) (cpos := cpos) PySem.F.plainAttrs_list PySem.F.slot_list_index PySem.F.type_list_index (mt_indexD (hu65 hr)) (fun a b c d => cLst_ty a b c d) (link_index (K := X.K)) ho (paq_cons ha (paq_nil (p := true)) hs) hbase hfew hline hs hplain
  simpa using h
/-! ### d.get -/
def cDic (env : En) (o : Opd) : Bool := (o.dic? env).isSome
theorem cDic_ty {K : PySem.W.Frag} {σ : L2.St} {Z H : Hp} {F G : List Addr} {env : En} {o : Opd} {x : V} (ok : Ok Z H (F ++ G)) (er : EnvR K Z H env σ F) (r : OpdR K Z H σ o x G) (h : cDic env o = true) : ∃ a, x = .ref a ∧ IsD H a := by
  unfold cDic at h
  obtain ⟨⟨b, ks, os⟩, h⟩ := Option.isSome_iff_exists.mp h
  obtain ⟨a, o, vs, rfl, ha, n, _⟩ := dic_seen ok.sub er r h
  refine ⟨a, rfl, ?_⟩
  rcases n.or with ⟨kvs, rfl, _⟩ | ⟨kvs, rfl, _⟩
  · exact .inl ⟨kvs, .inl ha⟩
  · exact .inr ⟨kvs, .inl ha⟩
def oGet (env : En) : List Opd → Option Opd
  | [a, k] => match a.dic? env with
    | some (b, ks, os) => match k.rd env with
      | some kd => if keyOk b kd = true then match idxK kd ks with
        | some n => os[n]?
        | none => some (.t (.z .non))
        else none
      | none => none
    | none => none
  | [a, k, .t (.z z)] => match a.dic? env with
    | some (b, ks, os) => match k.rd env with
      | some kd => if keyOk b kd = true then match idxK kd ks with
        | some n => os[n]?
        | none => some (.t (.z z))
        else none
      | none => none
    | none => none
  | _ => none
def rGet1 (x y : V) (H : Hp) (Q : VK) : Prop := ∃ a o, x = .ref a ∧ DGet H a y o ∧ Q (o.getD .non) H
def rGet2 (x y z : V) (H : Hp) (Q : VK) : Prop := ∃ a o, x = .ref a ∧ DGet H a y o ∧ Q (o.getD z) H
def rGetL (xs : List V) (H : Hp) (Q : VK) : Prop := match xs with
  | [x, y] => rGet1 x y H Q
  | [x, y, z] => rGet2 x y z H Q
  | _ => False
theorem link_get {K : PySem.W.Frag} : Link K oGet rGetL := by
  intro σ Z H F G env os xs o' Q ok er or ho hq
  have fin : ∀ v, OpdR K Z H σ o' v [] → Q v H := fun v r => hq v H [] (fun _ _ z => z) (fun _ z => nomatch z) List.nodup_nil r
  unfold oGet at ho
  split at ho
  · rename_i a k
    obtain ⟨x, y, A, B, rfl, ra, rb⟩ := or.two
    split at ho
    · rename_i b ks ws ha
      split at ho
      · rename_i kd hk
        split at ho
        · rename_i hkey
          have ry := rb.look ok.sub er hk
          obtain ⟨p, r, rfl, g, h1, h0, _⟩ := (dic_seen ok.sub er ra ha).get ry hkey
          split at ho
          · rename_i n hn
            obtain ⟨v, rfl, h2⟩ := h1 n o' hn ho
            exact ⟨p, _, rfl, g, fin v h2⟩
          · rename_i hn
            cases ho
            have := h0 hn
            subst this
            exact ⟨p, _, rfl, g, fin _ (.t (.z .non))⟩
        · cases ho
      · cases ho
    · cases ho
  · rename_i a k z
    cases or with
    | cons ra or =>
      cases or with
      | cons rb or =>
        cases or with
        | cons rz or =>
          cases or
          split at ho
          · rename_i b ks ws ha
            split at ho
            · rename_i kd hk
              split at ho
              · rename_i hkey
                have ry := rb.look ok.sub er hk
                obtain ⟨p, r, rfl, g, h1, h0, _⟩ := (dic_seen ok.sub er ra ha).get ry hkey
                split at ho
                · rename_i n hn
                  obtain ⟨v, rfl, h2⟩ := h1 n o' hn ho
                  exact ⟨p, _, rfl, g, fin v h2⟩
                · rename_i hn
                  cases ho
                  have := h0 hn
                  subst this
                  cases rz with
                  | t rz =>
                    cases rz with
                    | z rz => exact ⟨p, _, rfl, g, fin _ (.t (.z rz))⟩
              · cases ho
            · cases ho
          · cases ho
  · cases ho
theorem pq_get1 {X : Cx} {W : WX} {o e : Expr} {apos cpos : Pos} {p1 p2 : Bool} {fa fb : EM Opd} {k : Nat} (hr : Room k X.A) (ho : PQ X W p1 o fa) (ha : PQ X W p2 e fb) (m : M1 X o "get" apos e cpos := by exact ⟨rfl, rfl, rfl, rfl⟩) :
    PQ X W (p1 && p2) (.Call (.Attribute o "get" apos) [e] [] cpos) (sO oGet (sCons p2 (sChk cDic fa) (sCons true fb sNil))) :=
  (pe_dget1 (hu_of hr) ho ha m).imp fun σ H Q h => tQ_mono (chk_ok (R := fun x H => ∃ a, x = .ref a ∧ IsD H a) (fun a b c d => cDic_ty a b c d) (two_ok (o_ok link_get h))) fun x H1 ⟨⟨a, e1, i⟩, z⟩ => ⟨a, e1, i, tQ_mono z fun y H2 ⟨a', o, e2, g, q⟩ => by
    rw [e1] at e2; cases e2
    exact ⟨o, g, q⟩⟩
theorem pq_get2 {X : Cx} {W : WX} {o e f : Expr} {apos cpos : Pos} {p1 p2 p3 : Bool} {fa fb fc : EM Opd} {k : Nat} (hr : Room k X.A) (ho : PQ X W p1 o fa) (ha : PQ X W p2 e fb) (hf : PQ X W p3 f fc) (m : M2 X o "get" apos e f cpos := by exact ⟨rfl, rfl, rfl, rfl⟩) :
    PQ X W (p1 && (p2 && p3)) (.Call (.Attribute o "get" apos) [e, f] [] cpos) (sO oGet (sCons (p2 && p3) (sChk cDic fa) (sCons p3 fb (sCons true fc sNil)))) :=
  (pe_dget2 (hu_of hr) ho ha hf m).imp fun σ H Q h => tQ_mono (chk_ok (R := fun x H => ∃ a, x = .ref a ∧ IsD H a) (fun a b c d => cDic_ty a b c d) (three_ok (o_ok link_get h))) fun x H1 ⟨⟨a, e1, i⟩, z⟩ => ⟨a, e1, i, tQ_mono z fun y H2 z2 => tQ_mono z2 fun v H3 ⟨a', o, e2, g, q⟩ => by
    rw [e1] at e2; cases e2
    exact ⟨o, g, q⟩⟩
/-! ### a < b < c -/
def sChain (o1 o2 : En → List Opd → Option Opd) (fa fb fc : EM Opd) : EM Opd := fun env => match fa env with
  | some (.ok a e1) => match fb e1 with
    | some (.ok b e2) => match o1 e2 [a, b] with
      | some (.t (.z (.bl true))) => match fc e2 with
        | some (.ok c e3) => match o2 e3 [b, c] with
          | some r => some (.ok r e3)
          | none => none
        | _ => none
      | some (.t (.z (.bl false))) => some (.ok (.t (.z (.bl false))) e2)
      | _ => none
    | _ => none
  | _ => none
theorem chain_ok {K : PySem.W.Frag} {W : WX} {o1 o2 : En → List Opd → Option Opd} {R1 R2' : R2} {fa fb fc : EM Opd} (l1 : Link K o1 (R2L R1)) (l2 : Link K o2 (R2L R2')) {σ : L2.St} {H : Hp} {Q : VK} (h : tQ K W true (sChain o1 o2 fa fb fc) σ H Q) :
    tChain R1 R2' (tQ K W true fa) (tQ K W true fb) (tQ K W true fc) σ H Q := by
  obtain ⟨Z, env, F, ok, er, r, hr, post⟩ := h
  unfold sChain at hr
  split at hr
  · rename_i a e1 hfa
    split at hr
    · rename_i b e2 hfb
      refine ⟨Z, env, F, ok, er, _, hfa, fun x H1 Z1 F1 G1 x1 ok1 er1 or1 pp1 => ?_⟩
      obtain ⟨rfl, rfl, rfl, g1⟩ := pp1 rfl
      refine ⟨Z1, e1, F1, ok1.left, er1, _, hfb, fun y H2 Z2 F2 G2 x2 ok2 er2 or2 pp2 => ?_⟩
      obtain ⟨rfl, rfl, rfl, g2⟩ := pp2 rfl
      have or1' := or1.later x2 ok1 (.inr g2)
      have okb : Ok Z2 H2 ((F2 ++ G2) ++ G1) := Ok.beside x2 ok2 ok1
      have ok12 : Ok Z2 H2 (F2 ++ (G1 ++ G2)) := okb.perm (by
        rw [List.append_assoc]
        exact List.Perm.append_left F2 List.perm_append_comm)
      have ors : OpdRs K Z2 H2 σ [a, b] [x, y] (G1 ++ (G2 ++ [])) := .cons or1' (.cons or2 .nil)
      rw [List.append_nil] at ors
      have g12 : Grow H H2 := fun a u h => g2 a u (g1 a u h)
      split at hr
      · rename_i hb
        refine l1 σ Z2 H2 F2 (G1 ++ G2) e2 [a, b] [x, y] _ _ ok12 er2 ors hb fun v H3 G3 g3 fr nd or3 => ?_
        have hv : v = .bl true := by cases or3 with | t r => cases r with | z r => cases r; rfl
        subst hv
        refine ⟨true, rfl, ?_⟩
        rw [if_pos rfl]
        have ok3 : Ok Z2 H3 F2 := ok2.left.grow0 g3
        split at hr
        · rename_i c e3 hfc
          split at hr
          · rename_i res hres
            cases hr
            refine ⟨Z2, e2, F2, ok3, er2.grown g3, _, hfc, fun w H4 Z4 F4 G4 x4 ok4 er4 or4 pp4 => ?_⟩
            obtain ⟨rfl, rfl, rfl, g4⟩ := pp4 rfl
            have ok23 : Ok Z4 H3 (F4 ++ G2) := ok2.grow0 g3
            have or2' : OpdR K Z4 H4 σ b y G2 := (or2.later (F := F4) (F' := F4) (Ext.grow0 g3) ok2 (.inr g3)).later x4 ok23 (.inr g4)
            have okc : Ok Z4 H4 ((F4 ++ G4) ++ G2) := Ok.beside x4 ok4 ok23
            have ok24 : Ok Z4 H4 (F4 ++ (G2 ++ G4)) := okc.perm (by
              rw [List.append_assoc]
              exact List.Perm.append_left F4 List.perm_append_comm)
            have ors2 : OpdRs K Z4 H4 σ [b, c] [y, w] (G2 ++ (G4 ++ [])) := .cons or2' (.cons or4 .nil)
            rw [List.append_nil] at ors2
            refine l2 σ Z4 H4 F4 (G2 ++ G4) e3 [b, c] [y, w] _ _ ok24 er4 ors2 hres fun v5 H5 G5 g5 fr5 nd5 or5 => ?_
            have gg : Grow H H5 := fun a u h => g5 a u (g4 a u (g3 a u (g12 a u h)))
            have ok5 : Ok Z4 H5 (F4 ++ G5) := (ok24.left).grown g5 fr5 nd5 or5.mu
            have fr0 : ∀ a ∈ G5, H a = none := fun a ha => by
              cases e : H a with
              | none => rfl
              | some u => have := fr5 a ha; rw [g4 a u (g3 a u (g12 a u e))] at this; cases this
            exact post v5 H5 Z4 F4 G5 (Ext.grown gg fr0) ok5 (er4.grown g5) or5 fun _ => ⟨rfl, rfl, rfl, gg⟩
          · cases hr
        · cases hr
      · rename_i hb
        cases hr
        refine l1 σ Z2 H2 F2 (G1 ++ G2) e2 [a, b] [x, y] _ _ ok12 er2 ors hb fun v H3 G3 g3 fr nd or3 => ?_
        have hv : v = .bl false := by cases or3 with | t r => cases r with | z r => cases r; rfl
        subst hv
        refine ⟨false, rfl, ?_⟩
        rw [if_neg (by simp)]
        have ok3 : Ok Z2 H3 F2 := ok2.left.grow0 g3
        have gg : Grow H H3 := fun a u h => g3 a u (g12 a u h)
        exact post _ H3 Z2 F2 [] (by simpa using Ext.grow0 gg) (by simpa using ok3) (er2.grown g3) (.t (.z .bl)) fun _ => ⟨rfl, rfl, rfl, gg⟩
      · cases hr
    · cases hr
  · cases hr
theorem pq_chain {X : Cx} {W : WX} {op op' : CmpOp} {a b c : Expr} {pos : Pos} {o1 o2 : En → List Opd → Option Opd} {R1 R2' : R2} {fa fb fc : EM Opd} (ho : OpR X (compareOp op) R1) (l1 : Link X.K o1 (R2L R1)) (ho' : OpR X (compareOp op') R2') (l2 : Link X.K o2 (R2L R2')) (ha : PQ X W true a fa) (hb : PQ X W true b fb) (hc : PQ X W true c fc) (hm : lastMarks [op, op'] [b, c] = false := by rfl) :
    PQ X W true (.Compare a [op, op'] [b, c] pos) (sChain o1 o2 fa fb fc) := (pe_chain ho ho' ha hb hc hm).imp fun _ _ _ h => chain_ok l1 l2 h
theorem ptq_chain {X : Cx} {W : WX} {op op' : CmpOp} {a b c : Expr} {pos : Pos} {o1 o2 : En → List Opd → Option Opd} {R1 R2' : R2} {fa fb fc : EM Opd} (ho : OpR X (compareOp op) R1) (l1 : Link X.K o1 (R2L R1)) (ho' : OpR X (compareOp op') R2') (l2 : Link X.K o2 (R2L R2')) (ha : PQ X W true a fa) (hb : PQ X W true b fb) (hc : PQ X W true c fc) (hm : lastMarks [op, op'] [b, c] = false := by rfl) :
    PTQ X W true (.Compare a [op, op'] [b, c] pos) (sTb (sChain o1 o2 fa fb fc)) := (pt_chain ho ho' ha hb hc hm).imp fun _ _ _ h => chain_ok l1 l2 (tb_ok h)
abbrev cLt {X : Cx} := And.intro (op_lt (X := X)) (link_I0 (K := X.K) (g := fun i j => .bl (decide (i < j))) (g' := fun i j => .bl (decide (i < j))) fun _ _ => rfl)
abbrev cLe {X : Cx} := And.intro (op_le (X := X)) (link_I0 (K := X.K) (g := fun i j => .bl (decide (i ≤ j))) (g' := fun i j => .bl (decide (i ≤ j))) fun _ _ => rfl)
abbrev cGt {X : Cx} := And.intro (op_gt (X := X)) (link_I0 (K := X.K) (g := fun i j => .bl (decide (j < i))) (g' := fun i j => .bl (decide (j < i))) fun _ _ => rfl)
abbrev cGe {X : Cx} := And.intro (op_ge (X := X)) (link_I0 (K := X.K) (g := fun i j => .bl (decide (j ≤ i))) (g' := fun i j => .bl (decide (j ≤ i))) fun _ _ => rfl)
/-! ### slices -/
abbrev MO := En → Option (Option Int)
def moN : MO := fun _ => some none
def moS (f : EM Opd) : MO := fun env => match f env with
  | some (.ok o _) => match o.rd env with
    | some (.int i) => some (some i)
    | _ => none
  | _ => none
def tMO (K : PySem.W.Frag) (m : MO) : TO := fun σ H Q => ∃ Z env F, Ok Z H F ∧ EnvR K Z H env σ F ∧ ∃ o, m env = some o ∧ ∀ H', Grow H H' → Ok Z H' F → EnvR K Z H' env σ F → Q o H'
theorem mo_none {X : Cx} : PO X none (tMO X.K moN) := ⟨fun pins s σ H Q I ⟨Z, env, F, ok, er, o, ho, q⟩ => by
  cases ho
  exact po_none.run pins s σ H Q I (q H (fun _ _ z => z) ok er)⟩
theorem mo_some {X : Cx} {W : WX} {e : Expr} {f : EM Opd} (h : PQ X W true e f) : PO X (some e) (tMO X.K (moS f)) := ⟨fun pins s σ H Q I ⟨Z, env, F, ok, er, o, ho, q⟩ => by
  refine (po_some h).run pins s σ H Q I ?_
  unfold moS at ho
  split at ho
  · rename_i o1 e1 hf
    split at ho
    · rename_i i hi
      cases ho
      refine ⟨Z, env, F, ok, er, _, hf, fun v H1 Z1 F1 G1 x1 ok1 er1 or1 pp => ?_⟩
      obtain ⟨rfl, rfl, rfl, g⟩ := pp rfl
      exact ⟨i, (or1.look ok1.sub er1 hi).v_int, q H1 g ok1.left er1⟩
    · cases ho
  · cases ho⟩
def cutD {α : Type} (xs : List α) (lo hi : Option Int) : List α := (xs.drop (HT.sIx xs.length 0 lo)).take (HT.sIx xs.length xs.length hi - HT.sIx xs.length 0 lo)
theorem Reps.cut {K : PySem.W.Frag} {Z H : Hp} {ds : List D} {vs : List V} (r : Reps K Z H ds vs) (lo hi : Option Int) : Reps K Z H (cutD ds lo hi) (cutV vs lo hi) := by
  have dr : ∀ (n : Nat) {ds : List D} {vs : List V}, Reps K Z H ds vs → Reps K Z H (ds.drop n) (vs.drop n) := by
    intro n
    induction n with
    | zero => intro ds vs r; simpa using r
    | succ n ih =>
      intro ds vs r
      cases r with
      | nil => exact .nil
      | cons a b => exact ih b
  have tk : ∀ (n : Nat) {ds : List D} {vs : List V}, Reps K Z H ds vs → Reps K Z H (ds.take n) (vs.take n) := by
    intro n
    induction n with
    | zero => intro ds vs r; simp; exact .nil
    | succ n ih =>
      intro ds vs r
      cases r with
      | nil => exact .nil
      | cons a b => exact .cons a (ih b)
  unfold cutD cutV
  rw [r.length]
  exact tk _ (dr _ r)
def sSl (fa : EM Opd) (ml mh : MO) : EM Opd := fun env => match fa env with
  | some (.ok a _) => match ml env, mh env with
    | some lo, some hi => match a.tt env with
      | some u => match u.elsL with
        | some ds => some (.ok (.t (.lst ((cutD ds lo hi).map .z))) env)
        | none => match u.elsK with
          | some ds => some (.ok (.t (.lst ((cutD ds lo hi).map .z))) env)
          | none => match u.elsT with
            | some ds => some (.ok (.t (.z (.tup (cutD ds lo hi)))) env)
            | none => none
      | none => none
    | _, _ => none
  | _ => none
theorem sl_ok {K : PySem.W.Frag} {W : WX} {fa : EM Opd} {ml mh : MO} {σ : L2.St} {H : Hp} {Q : VK} (h : tQ K W true (sSl fa ml mh) σ H Q) :
    tSl (fun x lo hi H Q => rSlL K x lo hi H Q ∨ rSlA K x lo hi H Q) (tQ K W true fa) (tMO K ml) (tMO K mh) σ H Q := by
  obtain ⟨Z, env, F, ok, er, r, hr, post⟩ := h
  unfold sSl at hr
  split at hr
  · rename_i a e1 hfa
    split at hr
    · rename_i lo hi hlo hhi
      refine ⟨Z, env, F, ok, er, _, hfa, fun x H1 Z1 F1 G1 x1 ok1 er1 or1 pp1 => ?_⟩
      obtain ⟨rfl, rfl, rfl, g1⟩ := pp1 rfl
      refine ⟨Z1, e1, F1, ok1.left, er1, _, hlo, fun H2 g2 ok2 er2 => ⟨Z1, e1, F1, ok2, er2, _, hhi, fun H3 g3 ok3 er3 => ?_⟩⟩
      have g13 : Grow H1 H3 := fun a u h => g3 a u (g2 a u h)
      have g03 : Grow H H3 := fun a u h => g13 a u (g1 a u h)
      have or3 := or1.later (F := F1) (F' := F1) (Ext.grow0 (Z := Z1) g13) ok1 (.inr g13)
      split at hr
      · rename_i u hu
        have seen := or3.seen er3 hu
        split at hr
        · rename_i ds hds
          cases hr
          obtain ⟨p, vs, rfl, hp, rr⟩ := seen.elsL ok3.sub hds
          refine .inl ⟨p, vs, rfl, SqL.of hp, fun q hq => ?_⟩
          have nl := new_lst (K := K) (Z := Z1) (σ := σ) hq (rr.cut lo hi)
          have g4 := grow_upd (o := .lst (cutV vs lo hi)) hq
          have ok4 := ok3.grown g4 (fresh1 hq) (by simp) nl.mu
          exact post _ _ Z1 F1 [q] (Ext.grown (fun a u h => g4 a u (g03 a u h)) (fun a ha => by
            cases e : H a with
            | none => rfl
            | some u => have := fresh1 hq a ha; rw [g03 a u e] at this; cases this)) ok4 (er3.grown g4) nl fun _ => ⟨rfl, rfl, rfl, fun a u h => g4 a u (g03 a u h)⟩
        · split at hr
          · rename_i ds hds
            cases hr
            obtain ⟨p, vs, rfl, hp, rr⟩ := seen.elsK ok3.sub hds
            refine .inl ⟨p, vs, rfl, hp, fun q hq => ?_⟩
            have nl := new_lst (K := K) (Z := Z1) (σ := σ) hq (rr.cut lo hi)
            have g4 := grow_upd (o := .lst (cutV vs lo hi)) hq
            have ok4 := ok3.grown g4 (fresh1 hq) (by simp) nl.mu
            exact post _ _ Z1 F1 [q] (Ext.grown (fun a u h => g4 a u (g03 a u h)) (fun a ha => by
              cases e : H a with
              | none => rfl
              | some u => have := fresh1 hq a ha; rw [g03 a u e] at this; cases this)) ok4 (er3.grown g4) nl fun _ => ⟨rfl, rfl, rfl, fun a u h => g4 a u (g03 a u h)⟩
          · split at hr
            · rename_i ds hds
              cases hr
              obtain ⟨p, vs, rfl, hp, rr⟩ := seen.elsT hds
              refine .inr ⟨p, vs, rfl, SqT.of hp, fun hw => ?_, fun _ q hq => ?_⟩
              · have e : cutD ds lo hi = ds := by
                  unfold cutD
                  rw [rr.length, hw.1, hw.2, List.drop_zero, Nat.sub_zero, ← rr.length, List.take_length]
                exact post _ H3 Z1 F1 [] (by simpa using Ext.grow0 g03) (by simpa using ok3) er3 (.t (.z (.tup hp (by rw [e]; exact rr)))) fun _ => ⟨rfl, rfl, rfl, g03⟩
              · have g4 := grow_upd (o := .tup (cutV vs lo hi)) hq
                have nl := new_tup (K := K) (Z := Z1) (σ := σ) hq (rr.cut lo hi)
                exact post _ _ Z1 F1 [] (by simpa using Ext.grow0 (fun a u h => g4 a u (g03 a u h))) (by simpa using ok3.grow0 g4) (er3.grown g4) nl fun _ => ⟨rfl, rfl, rfl, fun a u h => g4 a u (g03 a u h)⟩
            · cases hr
      · cases hr
    · cases hr
  · cases hr
theorem pq_sl {X : Cx} {W : WX} {e : Expr} {lo hi : Option Expr} {p2 pos : Pos} {fa : EM Opd} {ml mh : MO} (he : PQ X W true e fa) (hl : PO X lo (tMO X.K ml)) (hh : PO X hi (tMO X.K mh)) : PQ X W true (.Subscript e (.Slice lo hi none p2) pos) (sSl fa ml mh) :=
  (pe_slice (sl_list.or sl_tupA) he hl hh).imp fun _ _ _ h => sl_ok h
/-! ### all, any -/
def dBls : List D → Option (List Bool)
  | [] => some []
  | .bl b :: r => match dBls r with
    | some bs => some (b :: bs)
    | none => none
  | _ :: _ => none
theorem dBls_eq : ∀ {ds : List D} {bs : List Bool}, dBls ds = some bs → ds = bs.map D.bl
  | [], bs, h => by simp only [dBls, Option.some.injEq] at h; subst h; rfl
  | d :: ds, bs, h => by
    cases d with
    | bl b =>
      simp only [dBls] at h
      split at h
      · rename_i bs' h2
        cases h
        rw [dBls_eq h2]; rfl
      · cases h
    | _ => simp [dBls] at h
@[simp] theorem dBls_map (bs : List Bool) : dBls (bs.map D.bl) = some bs := by
  induction bs with
  | nil => rfl
  | cons b bs ih => simp [dBls, ih]
theorem reps_bls {K : PySem.W.Frag} {Z H : Hp} : ∀ {bs : List Bool} {vs : List V}, Reps K Z H (bs.map D.bl) vs → vs = bs.map V.bl
  | [], _, r => by cases r; rfl
  | b :: bs, _, r => by
    cases r with
    | cons a c => cases a; rw [reps_bls c]; rfl
@[simp] def gAllL : List D → Option D
  | [.lst ds] => match dBls ds with
    | some bs => some (.bl (bs.all id))
    | none => none
  | _ => none
@[simp] def gAnyL : List D → Option D
  | [.lst ds] => match dBls ds with
    | some bs => some (.bl (bs.any id))
    | none => none
  | _ => none
theorem link_all {K : PySem.W.Frag} : Link K (oS gAllL) (rAll K) := by
  refine link_S fun H xs ds d Q r e q => ?_
  unfold gAllL at e
  split at e
  · split at e
    · rename_i bs hb
      cases e
      obtain ⟨x, rfl, r1⟩ := r.one
      cases r1 with
      | lst h rr =>
        rw [dBls_eq hb] at rr
        have := reps_bls rr
        subst this
        exact ⟨_, bs, rfl, SqL.of h, q⟩
    · cases e
  · cases e
theorem link_any {K : PySem.W.Frag} : Link K (oS gAnyL) (rAny K) := by
  refine link_S fun H xs ds d Q r e q => ?_
  unfold gAnyL at e
  split at e
  · split at e
    · rename_i bs hb
      cases e
      obtain ⟨x, rfl, r1⟩ := r.one
      cases r1 with
      | lst h rr =>
        rw [dBls_eq hb] at rr
        have := reps_bls rr
        subst this
        exact ⟨_, bs, rfl, SqL.of h, q⟩
    · cases e
  · cases e
section
variable {X : Cx} {W : WX} {e : Expr} {p1 pos : Pos} {p : Bool} {f : EM Opd}
theorem pq_all (hc : X.calm = true) (hg : Gl X "all") (hm : X.mg "all" = none) (he : PQ X W p e f) (hs : starEach [e] X.env = (false, eval e X.env) :: starEach [] X.env := by rfl) (hpl : (backTo pos (starEach [] X.env)).any (·.1) = false := by rfl) :
    PQ X W p (.Call (.Name "all" p1) [e] [] pos) (sO (oS gAllL) (sCons true f sNil)) :=
  (pe_callB (cr_all hc) hg hm (by decide +kernel) (pa_cons he pa_nil hs) (by decide) (by decide) hs hpl).imp fun _ _ _ h => one_ok (o_ok link_all h)
theorem pq_any (hc : X.calm = true) (hg : Gl X "any") (hm : X.mg "any" = none) (he : PQ X W p e f) (hs : starEach [e] X.env = (false, eval e X.env) :: starEach [] X.env := by rfl) (hpl : (backTo pos (starEach [] X.env)).any (·.1) = false := by rfl) :
    PQ X W p (.Call (.Name "any" p1) [e] [] pos) (sO (oS gAnyL) (sCons true f sNil)) :=
  (pe_callB (cr_any hc) hg hm (by decide +kernel) (pa_cons he pa_nil hs) (by decide) (by decide) hs hpl).imp fun _ _ _ h => one_ok (o_ok link_any h)
end
/-! ### list(range(..)), tuple(range(..)) -/
noncomputable def rgOk (i j : Int) : Bool := @decide (RgOk i j) (Classical.propDecidable _)
theorem rgOk_iff {i j : Int} : rgOk i j = true ↔ RgOk i j := by
  unfold rgOk
  exact @decide_eq_true_iff _ (Classical.propDecidable _)
theorem reps_rg {K : PySem.W.Frag} {Z H : Hp} (a b : Int) : Reps K Z H (rngD a (b - a).toNat) (rgV a b) := by
  unfold rgV
  generalize (b - a).toNat = n
  have : ∀ (n : Nat) (a : Int), Reps K Z H (rngD a n) ((List.range n).map fun i => V.int (a + (i : Nat))) := by
    intro n
    induction n with
    | zero => intro a; exact .nil
    | succ n ih =>
      intro a
      rw [List.range_succ_eq_map, List.map_cons, List.map_map]
      have h := ih (a + 1)
      refine .cons ?_ ?_
      · rw [show a + ((0 : Nat) : Int) = a by simp]; exact .int
      · have e : (List.range n).map ((fun i => V.int (a + (i : Nat))) ∘ Nat.succ) = (List.range n).map fun i => V.int (a + 1 + (i : Nat)) := by
          apply List.map_congr_left
          intro i _
          show V.int _ = V.int _
          congr 1
          push_cast
          omega
        rw [e]; exact h
  exact this n a
noncomputable def rgT (tu : Bool) (a b : Int) : Option Opd := if rgOk a b = true then some (.t (if tu then .z (.tup (rngD a (b - a).toNat)) else .lst ((rngD a (b - a).toNat).map .z))) else none
noncomputable def sRg1 (tu : Bool) (fa : EM Opd) : EM Opd := fun env => match fa env with
  | some (.ok o _) => match o.rd env with
    | some (.int j) => (rgT tu 0 j).map fun r => .ok r env
    | _ => none
  | _ => none
noncomputable def sRg2 (tu : Bool) (fa fb : EM Opd) : EM Opd := fun env => match fa env with
  | some (.ok o _) => match o.rd env with
    | some (.int i) => match fb env with
      | some (.ok o2 _) => match o2.rd env with
        | some (.int j) => (rgT tu i j).map fun r => .ok r env
        | _ => none
      | _ => none
    | _ => none
  | _ => none
section
variable {K : PySem.W.Frag} {W : WX} {fa fb : EM Opd} {σ : L2.St} {H : Hp} {Q : VK}
theorem rgT_ok {tu : Bool} {a b : Int} {r : Opd} {Z H1 : Hp} {env : En} {F : List Addr} (e : rgT tu a b = some r) (g : Grow H H1) (ok : Ok Z H1 F) (er : EnvR K Z H1 env σ F) (post : PostE K W true σ Q Z H F env (.ok r env)) :
    RgOk a b ∧ ∀ q, H1 q = none → Q (.ref q) (upd H1 q (if tu then .tup (rgV a b) else .lst (rgV a b))) := by
  unfold rgT at e
  split at e
  · rename_i h
    cases e
    refine ⟨rgOk_iff.mp h, fun q hq => ?_⟩
    cases tu with
    | true =>
      have nl := new_tup (K := K) (Z := Z) (σ := σ) hq (reps_rg (K := K) (Z := Z) (H := H1) a b)
      have g4 := grow_upd (o := .tup (rgV a b)) hq
      exact post _ _ Z F [] (by simpa using Ext.grow0 (fun a u h => g4 a u (g a u h))) (by simpa using ok.grow0 g4) (er.grown g4) nl fun _ => ⟨rfl, rfl, rfl, fun a u h => g4 a u (g a u h)⟩
    | false =>
      have nl := new_lst (K := K) (Z := Z) (σ := σ) hq (reps_rg (K := K) (Z := Z) (H := H1) a b)
      have g4 := grow_upd (o := .lst (rgV a b)) hq
      exact post _ _ Z F [q] (Ext.grown (fun a u h => g4 a u (g a u h)) (fun a ha => by
              cases e : H a with
              | none => rfl
              | some u => have := fresh1 hq a ha; rw [g a u e] at this; cases this)) (ok.grown g4 (fresh1 hq) (by simp) nl.mu) (er.grown g4) nl fun _ => ⟨rfl, rfl, rfl, fun a u h => g4 a u (g a u h)⟩
  · cases e
theorem rg1_ok {tu : Bool} (h : tQ K W true (sRg1 tu fa) σ H Q) : tRg1 (tQ K W true fa) σ H fun a b H1 => RgOk a b ∧ ∀ q, H1 q = none → Q (.ref q) (upd H1 q (if tu then .tup (rgV a b) else .lst (rgV a b))) := by
  obtain ⟨Z, env, F, ok, er, r, hr, post⟩ := h
  unfold sRg1 at hr
  split at hr
  · rename_i o e1 hfa
    split at hr
    · rename_i j hj
      obtain ⟨r', e, rfl⟩ := Option.map_eq_some_iff.mp hr
      refine ⟨Z, env, F, ok, er, _, hfa, fun x H1 Z1 F1 G1 x1 ok1 er1 or1 pp => ?_⟩
      obtain ⟨rfl, rfl, rfl, g⟩ := pp rfl
      exact ⟨j, (or1.look ok1.sub er1 hj).v_int, rgT_ok e g ok1.left er1 post⟩
    · cases hr
  · cases hr
theorem rg2_ok {tu : Bool} (h : tQ K W true (sRg2 tu fa fb) σ H Q) : tRg2 (tQ K W true fa) (tQ K W true fb) σ H fun a b H1 => RgOk a b ∧ ∀ q, H1 q = none → Q (.ref q) (upd H1 q (if tu then .tup (rgV a b) else .lst (rgV a b))) := by
  obtain ⟨Z, env, F, ok, er, r, hr, post⟩ := h
  unfold sRg2 at hr
  split at hr
  · rename_i o e1 hfa
    split at hr
    · rename_i i hi
      split at hr
      · rename_i o2 e2 hfb
        split at hr
        · rename_i j hj
          obtain ⟨r', e, rfl⟩ := Option.map_eq_some_iff.mp hr
          refine ⟨Z, env, F, ok, er, _, hfa, fun x H1 Z1 F1 G1 x1 ok1 er1 or1 pp => ?_⟩
          obtain ⟨rfl, rfl, rfl, g⟩ := pp rfl
          have hx := (or1.look ok1.sub er1 hi).v_int
          refine ⟨Z1, e1, F1, ok1.left, er1, _, hfb, fun y H2 Z2 F2 G2 x2 ok2 er2 or2 pp2 => ?_⟩
          obtain ⟨rfl, rfl, rfl, g2⟩ := pp2 rfl
          exact ⟨i, j, hx, (or2.look ok2.sub er2 hj).v_int, rgT_ok e (fun a u h => g2 a u (g a u h)) ok2.left er2 post⟩
        · cases hr
      · cases hr
    · cases hr
  · cases hr
end
section
variable {X : Cx} {W : WX} {a b : Expr} {p1 p2 pos pos2 : Pos} {fa fb : EM Opd}
theorem pq_lstR1 (hc : X.calm = true) (hg : Gl X "list") (hm : X.mg "list" = none) (hg2 : Gl X "range") (hm2 : X.mg "range" = none) (ha : PQ X W true a fa) (na : starEach [a] X.env = (false, eval a X.env) :: starEach [] X.env := by rfl) (na2 : starEach [.Call (.Name "range" p2) [a] [] pos2] X.env = (false, eval (.Call (.Name "range" p2) [a] [] pos2) X.env) :: starEach [] X.env := by rfl) :
    PQ X W true (.Call (.Name "list" p1) [.Call (.Name "range" p2) [a] [] pos2] [] pos) (sRg1 false fa) := (pe_listRg hc hg hm (prg_1 hg2 hm2 ha na) na2).imp fun σ H Q h => rg1_ok h
theorem pq_tupR1 (hc : X.calm = true) (hg : Gl X "tuple") (hm : X.mg "tuple" = none) (hg2 : Gl X "range") (hm2 : X.mg "range" = none) (ha : PQ X W true a fa) (na : starEach [a] X.env = (false, eval a X.env) :: starEach [] X.env := by rfl) (na2 : starEach [.Call (.Name "range" p2) [a] [] pos2] X.env = (false, eval (.Call (.Name "range" p2) [a] [] pos2) X.env) :: starEach [] X.env := by rfl) :
    PQ X W true (.Call (.Name "tuple" p1) [.Call (.Name "range" p2) [a] [] pos2] [] pos) (sRg1 true fa) := (pe_tupRg hc hg hm (prg_1 hg2 hm2 ha na) na2).imp fun σ H Q h => rg1_ok h
theorem pq_lstR2 (hc : X.calm = true) (hg : Gl X "list") (hm : X.mg "list" = none) (hg2 : Gl X "range") (hm2 : X.mg "range" = none) (ha : PQ X W true a fa) (hb : PQ X W true b fb) (na : starEach [a, b] X.env = (false, eval a X.env) :: starEach [b] X.env := by rfl) (nb : starEach [b] X.env = (false, eval b X.env) :: starEach [] X.env := by rfl) (hp : (backTo pos2 (starEach [b] X.env)).any (·.1) = false := by rfl) (na2 : starEach [.Call (.Name "range" p2) [a, b] [] pos2] X.env = (false, eval (.Call (.Name "range" p2) [a, b] [] pos2) X.env) :: starEach [] X.env := by rfl) :
    PQ X W true (.Call (.Name "list" p1) [.Call (.Name "range" p2) [a, b] [] pos2] [] pos) (sRg2 false fa fb) := (pe_listRg hc hg hm (prg_2 hg2 hm2 ha hb na nb hp) na2).imp fun σ H Q h => rg2_ok h
theorem pq_tupR2 (hc : X.calm = true) (hg : Gl X "tuple") (hm : X.mg "tuple" = none) (hg2 : Gl X "range") (hm2 : X.mg "range" = none) (ha : PQ X W true a fa) (hb : PQ X W true b fb) (na : starEach [a, b] X.env = (false, eval a X.env) :: starEach [b] X.env := by rfl) (nb : starEach [b] X.env = (false, eval b X.env) :: starEach [] X.env := by rfl) (hp : (backTo pos2 (starEach [b] X.env)).any (·.1) = false := by rfl) (na2 : starEach [.Call (.Name "range" p2) [a, b] [] pos2] X.env = (false, eval (.Call (.Name "range" p2) [a, b] [] pos2) X.env) :: starEach [] X.env := by rfl) :
    PQ X W true (.Call (.Name "tuple" p1) [.Call (.Name "range" p2) [a, b] [] pos2] [] pos) (sRg2 true fa fb) := (pe_tupRg hc hg hm (prg_2 hg2 hm2 ha hb na nb hp) na2).imp fun σ H Q h => rg2_ok h
end
end DL

/-! DL30: displays of dicts. -/
namespace DL
open PySem PySem.Spec PyProof.Rows L2
def sPairs : List (EM Opd × EM Opd) → EM (List Opd)
  | [] => sNil
  | (fk, fv) :: r => sCons false fk (sCons false fv (sPairs r))
def flatP : List (V × V) → List V
  | [] => []
  | (x, y) :: r => x :: y :: flatP r
theorem flatP_inj : ∀ {a b : List (V × V)}, flatP a = flatP b → a = b
  | [], [], _ => rfl
  | [], (_, _) :: _, h => by simp [flatP] at h
  | (_, _) :: _, [], h => by simp [flatP] at h
  | (x, y) :: a, (x', y') :: b, h => by
    simp only [flatP, List.cons.injEq] at h
    obtain ⟨rfl, rfl, h⟩ := h
    rw [flatP_inj h]
section
variable {K : PySem.W.Frag} {W : WX} {σ : L2.St} {H : Hp}
theorem tAQ_mono {p : Bool} {f : EM (List Opd)} {Q Q' : List V → Hp → Prop} (h : tAQ K W p f σ H Q) (i : ∀ v H, Q v H → Q' v H) : tAQ K W p f σ H Q' := by
  obtain ⟨Z, env, F, ok, er, r, hr, post⟩ := h
  refine ⟨Z, env, F, ok, er, r, hr, ?_⟩
  cases r with
  | ok o e => exact fun v H' Z' F' G a b c d e => i _ _ (post v H' Z' F' G a b c d e)
  | ex x e => exact post
theorem pairs_ok : ∀ {fs : List (EM Opd × EM Opd)} {H : Hp} {Q : List (V × V) → Hp → Prop}, tAQ K W false (sPairs fs) σ H (fun vs H2 => ∃ ps, flatP ps = vs ∧ Q ps H2) → tPairs (fs.map fun f => (tQ K W false f.1, tQ K W false f.2)) σ H Q
  | [], H, Q, h => by
    obtain ⟨ps, e, q⟩ := nil_ok h
    cases ps with
    | nil => exact q
    | cons p ps => simp [flatP] at e
  | (fk, fv) :: r, H, Q, h => by
    have h' : tAQ K W (false && false) (sCons false fk (sCons false fv (sPairs r))) σ H _ := h
    refine tQ_mono (cons_ok h') fun x H1 h1 => ?_
    have h1' : tAQ K W (false && false) (sCons false fv (sPairs r)) σ H1 _ := h1
    refine tQ_mono (cons_ok h1') fun y H2 h2 => ?_
    refine pairs_ok (tAQ_mono h2 fun vs H3 ⟨ps, e, q⟩ => ?_)
    cases ps with
    | nil => simp [flatP] at e
    | cons p ps =>
      obtain ⟨a, b⟩ := p
      simp only [flatP, List.cons.injEq] at e
      obtain ⟨rfl, rfl, e⟩ := e
      exact ⟨ps, e, q⟩
end
def unflat : List T → Option (List D × List T)
  | [] => some ([], [])
  | .z k :: v :: r => match unflat r with
    | some (ks, vs) => some (k :: ks, v :: vs)
    | none => none
  | _ => none
def distinct : List D → Bool
  | [] => true
  | d :: ds => (idxK d ds).isNone && distinct ds
def sDisp (fs : List (EM Opd × EM Opd)) : EM Opd := fun env => match sPairs fs env with
  | none => none
  | some (.ex x e) => some (.ex x e)
  | some (.ok os e) => match takes os e with
    | none => none
    | some (ts, e') => match unflat ts with
      | some (ks, vs) => if (ks.all (keyOk false) && distinct ks && decide (ks.length ≤ 15)) = true then some (.ok (.t (.dic false ks vs)) e') else none
      | none => none
theorem unflat_ok {K : PySem.W.Frag} {Z H : Hp} : ∀ {ts : List T} {ks : List D} {vs : List T} {ps : List (V × V)} {G : List Addr}, unflat ts = some (ks, vs) → RepTs K Z H ts (flatP ps) G → ks.all (keyOk false) = true →
    ∃ kvs : List (Key × V), ps = kvs.map (fun kv => (kV kv.1, kv.2)) ∧ ks = kvs.map (fun p => keyD p.1) ∧ RepTs K Z H vs (kvs.map (·.2)) G
  | [], ks, vs, ps, G, h, r, _ => by
    simp only [unflat, Option.some.injEq, Prod.mk.injEq] at h
    obtain ⟨rfl, rfl⟩ := h
    cases ps with
    | nil => cases r; exact ⟨[], rfl, rfl, .nil⟩
    | cons p ps => cases r
  | [t], ks, vs, ps, G, h, r, _ => by
    cases t <;> simp [unflat] at h
  | t :: v :: ts, ks, vs, ps, G, h, r, hk => by
    cases t with
    | z k =>
      simp only [unflat] at h
      split at h
      · rename_i ks' vs' h'
        cases h
        cases ps with
        | nil => cases r
        | cons p ps =>
          obtain ⟨x, y⟩ := p
          cases r with
          | cons a r =>
            cases r with
            | cons b r =>
              cases a with
              | z a =>
                simp only [List.all_cons, Bool.and_eq_true] at hk
                obtain ⟨kvs, rfl, rfl, r'⟩ := unflat_ok h' r hk.2
                simp only [keyOk, Option.isSome_iff_exists] at hk
                obtain ⟨⟨k', hk'⟩, _⟩ := hk
                have := dKey_eq hk'
                subst this
                have := rep_key a
                subst this
                exact ⟨(k', y) :: kvs, rfl, rfl, by simpa using RepTs.cons (vs := kvs.map (·.2)) b r'⟩
      · cases h
    | _ => simp [unflat] at h
theorem distinct_nodup : ∀ {kvs : List (Key × V)}, distinct (kvs.map (fun p => keyD p.1)) = true → (kvs.map (·.1)).Nodup
  | [], _ => by simp
  | p :: r, h => by
    simp only [List.map_cons, distinct, Bool.and_eq_true, Option.isNone_iff_eq_none] at h
    rw [List.map_cons, List.nodup_cons]
    exact ⟨idx_nin keq_key h.1, distinct_nodup h.2⟩
theorem merge_nodup : ∀ {kvs acc : List (Key × V)}, (acc.map (·.1) ++ kvs.map (·.1)).Nodup → mergeK acc kvs = acc ++ kvs
  | [], acc, _ => by simp [mergeK]
  | p :: r, acc, h => by
    have h1 : p.1 ∉ acc.map (·.1) := fun hm => (List.nodup_append.mp h).2.2 _ hm _ (by simp) rfl
    have e : L2.putK acc p.1 p.2 = acc ++ [p] := by
      have : valV acc p.1 = none := by
        cases hv : valV acc p.1 with
        | none => rfl
        | some v =>
          exfalso
          have : (acc.any fun kv => decide (kv.1 = p.1)) = true := by rw [valV_any, hv]; rfl
          obtain ⟨q, hq, hq2⟩ := List.any_eq_true.mp this
          exact h1 (List.mem_map.mpr ⟨q, hq, of_decide_eq_true hq2⟩)
      exact putK_new p.2 this
    show mergeK (L2.putK acc p.1 p.2) r = _
    rw [e, merge_nodup (kvs := r) (acc := acc ++ [p]) (by simpa using h)]
    simp
theorem disp_ok {K : PySem.W.Frag} {W : WX} {fs : List (EM Opd × EM Opd)} {σ : L2.St} {H : Hp} {Q : VK} (h : tQ K W false (sDisp fs) σ H Q) : tDisp (fs.map fun f => (tQ K W false f.1, tQ K W false f.2)) σ H Q := by
  obtain ⟨Z, env, F, ok, er, r, hr, post⟩ := h
  intro p hp
  have g := grow_upd (o := .dK []) hp
  have ok' := ok.grow0 g
  have er' := er.grown g
  have pF : p ∉ F := fun m => by have := ok.mu p m; rw [hp] at this; exact this
  have pZ : Z p = none := by
    cases e : Z p with
    | none => rfl
    | some o => have := ok.sub p o e; rw [hp] at this; cases this
  apply pairs_ok
  unfold sDisp at hr
  split at hr
  · cases hr
  · rename_i x e hf
    cases hr
    exact ⟨Z, env, F, ok', er', _, hf, fun d H' Z' F' a b c f => post d H' Z' F' ((Ext.grow0 g).trans a) b c f⟩
  · rename_i os e hf
    split at hr
    · cases hr
    · rename_i ts e' ht
      split at hr
      · rename_i ks vs hu
        split at hr
        · rename_i hc
          cases hr
          simp only [Bool.and_eq_true, decide_eq_true_eq] at hc
          obtain ⟨⟨hk, hd⟩, hl⟩ := hc
          refine ⟨Z, env, F, ok', er', _, hf, fun v H1 Z1 F1 G1 x1 ok1 er1 or1 _ => ?_⟩
          obtain ⟨Z2, F2, G2, x2, ok2, er2, r2⟩ := takes_ok ok1 er1 or1 ht
          have x12 := x1.trans x2
          have hp1 : H1 p = some (.dK []) := x1.hh p _ upd_same pF
          have pn : p ∉ F2 ++ G2 := fun m => by
            rcases x12.ff p m with z | z
            · exact pF z
            · rw [upd_same] at z; cases z
          have pZ2 : Z2 p = none := by
            cases e : Z2 p with
            | none => rfl
            | some o =>
              rcases x12.zn p o e with z | z | z
              · rw [pZ] at z; cases z
              · exact (pF z).elim
              · rw [upd_same] at z; exact (z trivial).elim
          -- the values as pairs
          have ex : ∃ ps, flatP ps = v := by
            have : ∀ {ts : List T} {ks : List DL.D} {vs : List T} {v : List V} {G : List Addr}, unflat ts = some (ks, vs) → RepTs K Z2 H1 ts v G → ∃ ps, flatP ps = v := by
              intro ts
              induction ts using unflat.induct with
              | case1 => intro ks vs v G h r; cases r; exact ⟨[], rfl⟩
              | case2 k w r ks' vs' h' ih =>
                intro ks vs v G h rr
                cases rr with
                | cons a rr =>
                  cases rr with
                  | cons b rr =>
                    obtain ⟨ps, rfl⟩ := ih h' rr
                    exact ⟨(_, _) :: ps, rfl⟩
              | case3 k w r h' ih =>
                intro ks vs v G h rr
                simp [unflat, h'] at h
              | case4 ts h1 h2 =>
                intro ks vs v G h rr
                exfalso
                unfold unflat at h
                split at h
                · exact h1 rfl
                · exact h2 _ _ _ rfl
                · cases h
            exact this hu r2
          obtain ⟨ps, rfl⟩ := ex
          obtain ⟨kvs, rfl, rfl, r3⟩ := unflat_ok hu r2 hk
          have nd := distinct_nodup hd
          refine ⟨_, rfl, hp1, kvs, rfl, by simpa using hl, ?_⟩
          rw [merge_nodup (acc := []) (by simpa using nd), List.nil_append]
          have tt : ∀ c xs, H1 c = some (.tup xs) → (upd H1 p (.dK kvs)) c = some (.tup xs) := fun c xs h => by
            rw [upd_ne (fun z => by subst z; rw [hp1] at h; cases h)]; exact h
          have kp : ∀ b ∈ F2 ++ G2, ∀ o, H1 b = some o → (upd H1 p (.dK kvs)) b = some o := fun b hb o h => by
            rw [upd_ne (fun z => pn (by rw [← z]; exact hb))]; exact h
          have er3 := er2.keep (Z' := Z2) (H' := upd H1 p (.dK kvs)) (fun _ _ h => h) tt fun b hb => kp b (List.mem_append_left _ hb)
          have r4 := r3.keep (Z' := Z2) (H' := upd H1 p (.dK kvs)) (fun _ _ h => h) tt fun b hb => kp b (List.mem_append_right _ hb)
          have rD : RepT K Z2 (upd H1 p (.dK kvs)) (.dic false (kvs.map fun p => keyD p.1) vs) (.ref p) (p :: G2) := .dic upd_same ⟨kvs, rfl, rfl, rfl, nd⟩ r4
          have ndF := List.nodup_append.mp ok2.nod
          refine post (.ref p) _ Z2 F2 (p :: G2) ⟨x12.zz, fun a o h n => ?_, fun a m => ?_, fun a o h => ?_⟩ ⟨fun a o h => ?_, ?_, fun a m => ?_, fun a m => ?_⟩ er3 (.t rD) fun z => nomatch z
          · have na : a ≠ p := fun z => by subst z; rw [hp] at h; cases h
            rw [upd_ne na]
            exact x12.hh a o (g a o h) n
          · rcases List.mem_append.mp m with z | z
            · rcases x12.ff a (List.mem_append_left _ z) with w | w
              · exact .inl w
              · refine .inr ?_
                cases e : H a with
                | none => rfl
                | some o => rw [g a o e] at w; cases w
            · rcases List.mem_cons.mp z with rfl | z
              · exact .inr hp
              · rcases x12.ff a (List.mem_append_right _ z) with w | w
                · exact .inl w
                · refine .inr ?_
                  cases e : H a with
                  | none => rfl
                  | some o => rw [g a o e] at w; cases w
          · rcases x12.zn a o h with w | w | w
            · exact .inl w
            · exact .inr (.inl w)
            · refine .inr (.inr fun m => w ?_)
              cases e : H a with
              | none => rw [e] at m; exact m.elim
              | some o => rw [g a o e]; rw [e] at m; exact m
          · have na : a ≠ p := fun z => by subst z; rw [pZ2] at h; cases h
            rw [upd_ne na]
            exact ok2.sub a o h
          · refine List.nodup_append.mpr ⟨ndF.1, List.nodup_cons.mpr ⟨fun m => pn (List.mem_append_right _ m), ndF.2.1⟩, fun a ha b hb e => ?_⟩
            rcases List.mem_cons.mp hb with z | z
            · subst e; subst z; exact pn (List.mem_append_left _ ha)
            · exact ndF.2.2 a ha b z e
          · rcases List.mem_append.mp m with z | z
            · exact ok2.dis a (List.mem_append_left _ z)
            · rcases List.mem_cons.mp z with rfl | z
              · exact pZ2
              · exact ok2.dis a (List.mem_append_right _ z)
          · rcases List.mem_append.mp m with z | z
            · have na : a ≠ p := fun w => pn (by rw [← w]; exact List.mem_append_left _ z)
              rw [upd_ne na]; exact ok2.mu a (List.mem_append_left _ z)
            · rcases List.mem_cons.mp z with rfl | z
              · rw [upd_same]; trivial
              · have na : a ≠ p := fun w => pn (by rw [← w]; exact List.mem_append_right _ z)
                rw [upd_ne na]; exact ok2.mu a (List.mem_append_right _ z)
        · cases hr
      · cases hr
structure PPQ (X : Cx) (W : WX) (pos : Pos) (keys : List (Option Expr)) (values : List Expr) (fs : List (EM Opd × EM Opd)) : Prop where
  run : PPs X pos keys values (fs.map fun f => (tQ X.K W false f.1, tQ X.K W false f.2))
theorem ppq_nil {X : Cx} {W : WX} {pos : Pos} : PPQ X W pos [] [] [] := ⟨pps_nil⟩
theorem ppq_cons {X : Cx} {W : WX} {pos : Pos} {k v : Expr} {ks : List (Option Expr)} {vs : List Expr} {fk fv : EM Opd} {fs : List (EM Opd × EM Opd)} {p1 p2 : Bool} (hk : PQ X W p1 k fk) (hv : PQ X W p2 v fv) (hr : PPQ X W pos ks vs fs) :
    PPQ X W pos (some k :: ks) (v :: vs) ((fk, fv) :: fs) := ⟨pps_cons (hk.imp fun _ _ _ z => tQ_any z : PQ X W false k fk) (hv.imp fun _ _ _ z => tQ_any z : PQ X W false v fv) hr.run⟩
theorem pq_disp {X : Cx} {W : WX} {pos : Pos} {keys : List (Option Expr)} {values : List Expr} {fs : List (EM Opd × EM Opd)} (h : PPQ X W pos keys values fs) (hall : keys.all (·.isSome) = true := by rfl) (hl : keys.length = values.length := by rfl) (h0 : keys ≠ [] := by exact List.cons_ne_nil _ _) (h15 : keys.length ≤ 15 := by decide) :
    PQ X W false (.Dict keys values pos) (sDisp fs) := (pe_disp h.run hall hl h0 h15).imp fun _ _ _ h => disp_ok h
end DL

/-! DL31: exceptions raised and caught. -/
namespace DL
open PySem PySem.Spec PyProof.Rows L2
/-! ### raise X('..') -/
/-- an exception class without an own __init__ -/
structure Exc0 (K : PySem.W.Frag) (mg : Str → Option Value) (x : Str) (C : Addr) : Prop where
  g : mg x = some (.ref C)
  ex : PySem.W.excIn K C He.veBase "ValueError.__new__" = true
  kp : PySem.W.keepIn K (.ref C) = true
  sb : PySem.W.subIn K (.ref C) (.type "BaseException") = some true
  ty : PySem.W.typeIn K (.ref C) = some (.type "type")
def sRaise0 (C : Addr) : SM := fun env => some (.ex ⟨C, [], []⟩ env)
theorem psq_raise0 {X : Cx} {W : WX} {P : List Nat} {x m : Str} {C : Addr} {j : Nat} {p p2 pos pos' : Pos} (hc : X.calm = true) (tk : Takes X W) (T : Exc0 X.K X.mg x C) (hg : Gl X x)
    (hdb : (x == ("__debug__" : Str)) = false := by decide) : PSQ X W P (.Raise (some (.Call (.Name x p) [.Constant (.str m) j p2] [] pos)) none pos') (sRaise0 C) := by
  refine (ps_raise hc tk (pmk_own PySem.F.excBase_ValueError T.ex T.g T.kp (raises_own T.sb T.ty) hg hdb)).imp fun D σ H ⟨Z, env, F, ok, er, o, ho, post⟩ => ?_
  cases ho
  exact post none σ H Z F Ext.refl ok er (.inl ⟨rfl, rfl, rfl⟩) Pin.refl
/-! ### raise X(e), X's __init__ storing it -/
def spIni (K : PySem.W.Frag) (f : Str) : Sp := fun vs H Q _ => ∃ a y C, vs = [.ref a, y] ∧ OexC K C ∧ PySem.W.findIn K (.ref C) f = some none ∧ H a = some (exo a C none) ∧
  ∀ dx, H dx = none → dx ≠ a → Q .non (upd (upd H dx (exd dx [(f, y)])) a (exo a C (some dx)))
theorem ini_ok {P : Program} {w : World} {K : PySem.W.Frag} {mg : Str → Option Value} {base : Heap} {x qual f : Str} {st : Stmt} {a : Addr} {fd : FuncData} {N ps : List Str} {k : Nat} (Fn : MethAt K x qual st ps a fd) (S : FnScope N ps (defScope st)) (hp : ps.length = 2)
    (body : ∀ (cdv : Value) (A : Around) (outer : List PySem.Env) (s : Shared) (H : Hp) (E : XK), PSs (cxOf (L2.CX P w) P w K mg base N qual (defScope st) a cdv A outer s H E) (defBody st) (tOst K f (tVar 0) (tVar 1))) :
    FnOk P w K mg base (L2.CX P w) (k + 1) a fd ps (spIni K f) := by
  refine Fn.fn.ok S (fun vs H Q E ⟨a, y, C, e, _⟩ => by rw [e, hp]; rfl) (fun cdv A outer s H vs Q E hr ⟨a', y, C, e, T, hn, ha, q⟩ => ⟨_, body cdv A outer s H E, ?_⟩)
  subst e
  exact ⟨y, rfl, .ref a', rfl, a', C, rfl, T, hn, .inl ⟨ha, fun dx h1 h2 => q dx h1 h2⟩⟩
structure Exc1 (K : PySem.W.Frag) (mg : Str → Option Value) (x f : Str) (C fI : Addr) : Prop where
  g : mg x = some (.ref C)
  ox : OexC K C
  no : PySem.W.findIn K (.ref C) f = some none
  iC : PySem.W.findIn K (.ref C) "__init__" = some (some (.ref fI))
  tI : PySem.W.typeIn K (.ref fI) = some (.type "function")
def sRaise1 (C : Addr) (f : Str) (fa : EM Opd) : SM := fun env => match fa env with
  | some (.ok o e) => match o.rd e with
    | some d => if d.imm = true then some (.ex ⟨C, [f], [d]⟩ e) else none
    | none => none
  | some (.ex x e) => some (.ex x e)
  | none => none
theorem upd_del {H : Hp} {a d : Addr} {o1 o2 o3 : HO} (ha : H a = none) (hd : d ≠ a) : upd (del (upd (upd (upd H a o1) d o2) a o3) a) d (.xd []) = upd H d (.xd []) := by
  funext b
  by_cases h1 : b = d
  · subst h1; rw [upd_same, upd_same]
  · rw [upd_ne h1, upd_ne h1]
    by_cases h2 : b = a
    · subst h2; rw [del_same]; exact ha.symm
    · rw [del_ne h2, upd_ne h2, upd_ne h1, upd_ne h2]
theorem upd_del' {H : Hp} {a d : Addr} {o1 o2 o3 o4 : HO} (ha : H a = none) (hd : d ≠ a) : upd (del (upd (upd (upd H a o1) d o2) a o3) a) d o4 = upd H d o4 := by
  funext b
  by_cases h1 : b = d
  · subst h1; rw [upd_same, upd_same]
  · rw [upd_ne h1, upd_ne h1]
    by_cases h2 : b = a
    · subst h2; rw [del_same]; exact ha.symm
    · rw [del_ne h2, upd_ne h2, upd_ne h1, upd_ne h2]
theorem psq_raise1 {X : Cx} {W : WX} {P : List Nat} {x f : Str} {C fI : Addr} {e : Expr} {p pos pos' : Pos} {k : Nat} {fd : FuncData} {ps : List Str} {pp : Bool} {fa : EM Opd} (hc : X.calm = true) (tk : Takes X W) (T : Exc1 X.K X.mg x f C fI) (hg : Gl X x) (hr : Room (k + 1) X.A)
    (F1 : FnOk X.prog X.w X.K X.mg X.base (L2.CX X.prog X.w) k fI fd ps (spIni X.K f)) (hb : Binds X.K fd ps []) (he : PQ X W pp e fa)
    (hdb : (x == ("__debug__" : Str)) = false := by decide) (hst : starEach [e] X.env = (false, eval e X.env) :: starEach [] X.env := by rfl) (hpl : (backTo pos (starEach [] X.env)).any (·.1) = false := by rfl) :
    PSQ X W P (.Raise (some (.Call (.Name x p) [e] [] pos)) none pos') (sRaise1 C f fa) := by
  have ha : PA X [e] (tCons (tQ X.K W false fa) tNil) := pa_cons (he.imp fun _ _ _ z => tQ_any z : PQ X W false e fa) pa_nil hst
  have mk := pmk_oex (pos := pos) (p := p) T.ox T.iC T.tI F1 hr hb .nil (passes_call tk (fun _ _ _ _ z => z.elim)) hg T.g ha hdb hst hpl
  refine (ps_raise hc tk mk).imp fun D σ H ⟨Z, env, F, ok, er, o, ho, post⟩ => ?_
  unfold sRaise1 at ho
  split at ho
  · rename_i o1 e1 hf
    split at ho
    · rename_i d hd
      split at ho
      · rename_i hi
        cases ho
        refine ⟨Z, env, F, ok, er, _, hf, fun y H1 Z1 F1' G1 x1 ok1 er1 or1 _ => ⟨by show 1 ≤ 1000; decide, fun a hn => ?_⟩⟩
        refine ⟨a, y, C, rfl, T.ox, T.no, upd_same, fun dx h1 h2 => ⟨rfl, dx, [(f, y)], upd_same, ?_, ?_, ?_⟩⟩
        · rw [upd_ne h2, upd_same]
        · rw [upd_ne h2] at h1; exact h1
        · rw [upd_del' hn h2]
          have hdx : H1 dx = none := by rw [upd_ne h2] at h1; exact h1
          have g := grow_upd (o := .xd [(f, y)]) hdx
          have ry := (or1.look ok1.sub er1 hd).imm g.tt hi (Z' := Z1)
          exact post (some dx) σ _ Z1 F1' ((x1.sub fun a ha => List.mem_append_left _ ha).trans (Ext.grow0 g)) (ok1.left.grow0 g) (er1.grown g) (.inr ⟨List.cons_ne_nil _ _, dx, [(f, y)], rfl, upd_same, rfl, .cons ry .nil⟩) Pin.refl
      · cases ho
    · cases ho
  · rename_i x e1 hf
    cases ho
    exact ⟨Z, env, F, ok, er, _, hf, fun d H' Z' F' a b c f => post d σ H' Z' F' a b c f Pin.refl⟩
  · cases ho
/-! ### try .. except X -/
def Out.isEx : Out → Bool
  | .ex _ _ => true
  | _ => false
def sTryO (hs : List Addr) (g s : SM) : SM := fun env => match g env with
  | some (.ex x e) => if hs.contains x.C = true then match s e with
    | some (.ex _ _) => none
    | r => r
    else none
  | r => r
section
variable {K : PySem.W.Frag} {W W' : WX} {P : List Nat} {D : Ends} {σ : L2.St} {Z H : Hp} {F : List Addr}
theorem PostS.noex {o : Out} (h : PostS K W P D σ Z H F o) (n : o.isEx = false) : PostS K W' P D σ Z H F o := by
  cases o with
  | ex x e => cases n
  | nx e => exact h
  | bk e => exact h
  | ct e => exact h
  | rt t e => exact h
theorem tryO_ok {c : Addr} {hs : List Addr} {g s : SM} (hm : ∀ a ∈ hs, PySem.W.exmOne K (.ref a) (.ref c) = some true) (q : tS K W P (sTryO hs g s) D σ H) :
    tS K (wOnly K (.ref c) (fun _ _ _ => tS K (fun _ _ _ _ => False) P s) W D) P g D σ H := by
  obtain ⟨Z, env, F, ok, er, o, ho, post⟩ := q
  unfold sTryO at ho
  split at ho
  · rename_i x e hg
    split at ho
    · rename_i hx
      refine ⟨Z, env, F, ok, er, _, hg, fun d σ' H' Z' F' x1 ok1 er1 xr pn => ⟨true, hm x.C (by simpa using hx), fun _ a _ => ?_, fun z => nomatch z⟩⟩
      split at ho
      · cases ho
      · rename_i r hr
        refine ⟨Z', e, F', ok1, er1, o, ho, (post.then x1 pn).noex ?_⟩
        cases o with
        | ex y e' => exact (hr y e' ho).elim
        | _ => rfl
    · cases ho
  · rename_i r hr
    refine ⟨Z, env, F, ok, er, o, ho, post.noex ?_⟩
    cases o with
    | ex y e' => exact (hr y e' ho).elim
    | _ => rfl
end
theorem psq_tryO {X : Cx} {W : WX} {P : List Nat} {x : Str} {c : Addr} {hs : List Addr} {body suite : List Stmt} {b₀ : Stmt} {np pos pos' : Pos} {g s : SM} (hst : X.stack = X.env :: X.outer) (hf : X.env.frame = some X.env.locals) (hc : Names X x (.ref c)) (tk : Takes X W)
    (hm : ∀ a ∈ hs, PySem.W.exmOne X.K (.ref a) (.ref c) = some true)
    (hb : ∀ (W : WX) (pn : List (Addr × Obj)) (xe : Value → Shared → Prop), Takes (X.tr pn xe) W → PassesOwn (model X.prog X.w) X.A X.env xe → PBQ (X.tr pn xe) W P body g)
    (hsu : ∀ (a : Addr) (oe : Obj) (pn : List (Addr × Obj)), PBQ (X.suite a ((a, oe) :: pn)) (fun _ _ _ _ => False) P (b₀ :: suite) s) :
    PSQ X W P (.Try body [.ExceptHandler (some (.Name x np)) none (b₀ :: suite) pos'] [] [] pos) (sTryO hs g s) :=
  (ps_try_only (tb := fun W => tS X.K W P g) hst hf hc tk hb (fun a oe cls d pn _ _ => hsu a oe pn)).imp fun D σ H q => tryO_ok hm q
end DL

/-! DL32: try .. except X as n; n.f. -/
namespace DL
open PySem PySem.Spec PyProof.Rows L2
def goneO (i : Nat) : Out → Option Out
  | .nx e => some (.nx (e.set i none))
  | .bk e => some (.bk (e.set i none))
  | .ct e => some (.ct (e.set i none))
  | .rt t e => some (.rt t (e.set i none))
  | .ex _ _ => none
/-- the slot of a caught exception -/
def exSlot (a dd : Addr) (x : Exc) : Option T := if x.ns = [] then none else some (.z (.exv a dd x.C x.ns x.vs))
def exD (dd : Addr) (x : Exc) : Option Addr := if x.ns = [] then none else some dd
/-- the suite's answer, the same whatever the exception's address -/
noncomputable def sTryA (hs : List Addr) (i : Nat) (g : SM) (s : Addr → Option Addr → Addr → SM) : SM := fun env => match g env with
  | some (.ex x e) => if hs.contains x.C = true ∧ i < e.length then
      @dite _ (∃ o : Out, ∀ a dd, ∃ o' : Out, s a (exD dd x) x.C (e.set i (exSlot a dd x)) = some o' ∧ goneO i o' = some o) (Classical.propDecidable _) (fun h => some h.choose) (fun _ => none)
    else none
  | r => r
theorem tryA_nx {hs : List Addr} {i : Nat} {g : SM} {s : Addr → Option Addr → Addr → SM} {env : En} {o : Out} (h : g env = some o) (n : o.isEx = false) : sTryA hs i g s env = some o := by
  unfold sTryA
  rw [h]
  cases o with
  | ex x e => cases n
  | _ => rfl
theorem tryA_ex {hs : List Addr} {i : Nat} {g : SM} {s : Addr → Option Addr → Addr → SM} {env e : En} {x : Exc} {o : Out} (h : g env = some (.ex x e)) (hc : hs.contains x.C = true) (hi : i < e.length) (q : ∀ a dd, ∃ o' : Out, s a (exD dd x) x.C (e.set i (exSlot a dd x)) = some o' ∧ goneO i o' = some o) : sTryA hs i g s env = some o := by
  unfold sTryA
  rw [h]
  have ex : ∃ o : Out, ∀ a dd, ∃ o' : Out, s a (exD dd x) x.C (e.set i (exSlot a dd x)) = some o' ∧ goneO i o' = some o := ⟨o, q⟩
  simp only [hc, hi, and_self, if_true]
  rw [dif_pos ex]
  congr 1
  obtain ⟨o1, h1, h2⟩ := ex.choose_spec 0 0
  obtain ⟨o2, h3, h4⟩ := q 0 0
  rw [h1] at h3
  cases h3
  rw [h2] at h4
  exact Option.some.inj h4
def tSui (K : PySem.W.Frag) (P : List Nat) (s : Addr → Option Addr → Addr → SM) (a : Addr) (cls : Value) (d : Option Addr) : TS := match cls with
  | .ref C => tS K (fun _ _ _ _ => False) P (s a d C)
  | _ => fun _ _ _ => False
section
variable {K : PySem.W.Frag} {W W' : WX} {P : List Nat} {D : Ends} {σ : L2.St} {Z H : Hp} {F : List Addr}
theorem EnvR.slot0 {env : En} (er : EnvR K Z H env σ F) (ok : Ok Z H F) {i : Nat} (hi : i < env.length) {t : Option T} {v : Option V} (r : SlotR K Z H t v []) : ∃ F', (∀ a ∈ F', a ∈ F) ∧ Ok Z H F' ∧ EnvR K Z H (env.set i t) (σ.set i v) F' := by
  obtain ⟨A, Fi, B, o, e1, e2, e3, e4⟩ := er.lens (List.getElem?_eq_getElem hi)
  refine ⟨A ++ [] ++ B, fun a ha => ?_, ok.subF ?_, e4 Z H (fun _ _ h => h) (fun _ _ h => h) (fun _ _ _ h => h) t v [] r⟩
  · rw [e1]; simp at ha ⊢; rcases ha with h | h
    · exact .inl h
    · exact .inr (.inr h)
  · rw [e1]; simp
theorem goneO_post {i : Nat} {o o' : Out} {W0 : WX} (h : PostS K W P D σ Z H F o) (g : goneO i o' = some o) (hP : i ∉ P) (hi : i < σ.length) :
    PostS K W0 P { nx := fun σ' H' => D.nx (σ'.set i none) H', rt := D.rt, bk := fun σ' H' => D.bk (σ'.set i none) H', ct := fun σ' H' => D.ct (σ'.set i none) H' } σ Z H F o' := by
  have key : ∀ {e : En} {σ' : L2.St} {Z' H' : Hp} {F' : List Addr}, Ok Z' H' F' → EnvR K Z' H' e σ' F' → Pin P σ σ' → ∃ F2, (∀ a ∈ F2, a ∈ F') ∧ Ok Z' H' F2 ∧ EnvR K Z' H' (e.set i none) (σ'.set i none) F2 := fun {e σ' Z' H' F'} ok er pn =>
    er.slot0 ok (by rw [er.length, pn.1]; exact hi) .no
  have pin : ∀ {σ' : L2.St}, Pin P σ σ' → Pin P σ (σ'.set i none) := fun pn => pn.trans (Pin.set hP)
  cases o' with
  | nx e =>
    cases g
    intro σ' H' Z' F' a b c d
    obtain ⟨F2, h1, h2, h3⟩ := key b c d
    exact h (σ'.set i none) H' Z' F2 (a.sub h1) h2 h3 (pin d)
  | bk e =>
    cases g
    intro σ' H' Z' F' a b c d
    obtain ⟨F2, h1, h2, h3⟩ := key b c d
    exact h (σ'.set i none) H' Z' F2 (a.sub h1) h2 h3 (pin d)
  | ct e =>
    cases g
    intro σ' H' Z' F' a b c d
    obtain ⟨F2, h1, h2, h3⟩ := key b c d
    exact h (σ'.set i none) H' Z' F2 (a.sub h1) h2 h3 (pin d)
  | rt t e =>
    cases g
    intro v σ' H' Z' F' G a b c d f
    obtain ⟨A, Fi, B, o, e1, e2, e3, e4⟩ := c.lens (List.getElem?_eq_getElem (show i < e.length by rw [c.length, f.1]; exact hi))
    have sl : ((A ++ [] ++ B) ++ G).Sublist (F' ++ G) := by rw [e1]; simp
    exact h v (σ'.set i none) H' Z' (A ++ [] ++ B) G (a.sub fun b hb => sl.subset hb) (b.subF sl) (e4 Z' H' (fun _ _ h => h) (fun _ _ h => h) (fun _ _ _ h => h) none none [] .no) d (pin f)
  | ex x e => cases g
theorem tryA_ok {c : Addr} {hs : List Addr} {i : Nat} {g : SM} {s : Addr → Option Addr → Addr → SM} (hP : i ∉ P) (hm : ∀ a ∈ hs, PySem.W.exmOne K (.ref a) (.ref c) = some true) (q : tS K W P (sTryA hs i g s) D σ H) :
    tS K (wAs K (.ref c) i (fun a cls d => tSui K P s a cls d) W D) P g D σ H := by
  obtain ⟨Z, env, F, ok, er, o, ho, post⟩ := q
  unfold sTryA at ho
  split at ho
  · rename_i x e hg
    split at ho
    · rename_i hx
      obtain ⟨hx, hi⟩ := hx
      refine ⟨Z, env, F, ok, er, _, hg, fun d σ' H' Z' F' x1 ok1 er1 xr pn => ⟨true, hm x.C (by simpa using hx), fun _ a _ => ?_, fun z => nomatch z⟩⟩
      split at ho
      · rename_i hex
        cases ho
        have sp := hex.choose_spec
        have hi' : i < σ'.length := by rw [← er1.length]; exact hi
        have psl : Pin P σ (σ'.set i (some (.ref a))) := pn.trans (Pin.set hP)
        show tS K (fun _ _ _ _ => False) P (s a d x.C) _ _ _
        rcases xr with ⟨h1, h2, rfl⟩ | ⟨hnn, dd, fs, rfl, hH, hn, rr⟩
        · obtain ⟨o', s1, s2⟩ := sp a 0
          have es : exSlot a 0 x = none := if_pos h1
          have ed : exD 0 x = none := if_pos h1
          rw [es, ed] at s1
          obtain ⟨F2, f1, f2, f3⟩ := er1.slot0 ok1 hi (t := none) (v := some (.ref a)) .no
          exact ⟨Z', _, F2, f2, f3, o', s1, goneO_post (post.then (x1.sub f1) psl) s2 hP (by rw [List.length_set]; exact hi')⟩
        · have hne' : x.ns ≠ [] := hnn
          obtain ⟨o', s1, s2⟩ := sp a dd
          by_cases hne : x.ns = []
          · exact (hne' hne).elim
          · have es : exSlot a dd x = some (.z (.exv a dd x.C x.ns x.vs)) := if_neg hne
            have ed : exD dd x = some dd := if_neg hne
            rw [es, ed] at s1
            -- the dict is frozen
            have ndd : dd ∉ F' := fun m => by have := ok1.mu dd m; rw [hH] at this; exact this
            let Z2 : Hp := fun b => if b = dd then some (.xd fs) else Z' b
            have z2 : ∀ b o, Z' b = some o → Z2 b = some o := fun b o e => by
              show (if b = dd then _ else _) = _
              by_cases hb : b = dd
              · rw [if_pos hb]; subst hb
                have := ok1.sub b o e
                rw [hH] at this; exact this
              · rw [if_neg hb]; exact e
            have z2n : ∀ b o, Z2 b = some o → b = dd ∧ o = .xd fs ∨ Z' b = some o := fun b o e => by
              have e' : (if b = dd then some (.xd fs) else Z' b) = some o := e
              by_cases hb : b = dd
              · rw [if_pos hb] at e'; cases e'; exact .inl ⟨hb, rfl⟩
              · rw [if_neg hb] at e'; exact .inr e'
            have ok2 : Ok Z2 H' F' := by
              refine ⟨fun b o e => ?_, ok1.nod, fun b hb => ?_, ok1.mu⟩
              · rcases z2n b o e with ⟨rfl, rfl⟩ | e
                · exact hH
                · exact ok1.sub b o e
              · cases e : Z2 b with
                | none => rfl
                | some o =>
                  rcases z2n b o e with ⟨rfl, rfl⟩ | e
                  · exact (ndd hb).elim
                  · rw [ok1.dis b hb] at e; cases e
            have x2 : Ext Z' H' F' Z2 H' F' := by
              refine ⟨z2, fun _ _ h _ => h, fun _ h => .inl h, fun b o e => ?_⟩
              rcases z2n b o e with ⟨rfl, rfl⟩ | e
              · exact .inr (.inr (by rw [hH]; exact fun m => m))
              · exact .inl e
            have er2 := er1.keep (Z' := Z2) (H' := H') z2 (fun _ _ h => h) (fun _ _ _ h => h)
            have rr2 : Rep K Z2 H' (.exv a dd x.C x.ns x.vs) (.ref a) := .exv (fs := fs) (if_pos rfl) hn (rr.mono z2 fun _ _ h => h)
            obtain ⟨F2, f1, f2, f3⟩ := er2.slot0 ok2 hi (t := some (.z (.exv a dd x.C x.ns x.vs))) (v := some (.ref a)) (.so (.z rr2))
            exact ⟨Z2, _, F2, f2, f3, o', s1, goneO_post (post.then ((x1.trans x2).sub f1) psl) s2 hP (by rw [List.length_set]; exact hi')⟩
      · cases ho
    · cases ho
  · rename_i r hr
    refine ⟨Z, env, F, ok, er, o, ho, post.noex ?_⟩
    cases o with
    | ex y e' => exact (hr y e' ho).elim
    | _ => rfl
end
/-- n.f of the caught exception -/
def sXf (a : Addr) (d : Option Addr) (C : Addr) (hs : List Addr) (i : Nat) (f : Str) : EM Opd := fun env => match env[i]? with
  | some (some (.z (.exv a' dd C' ns vs))) => if a' = a ∧ some dd = d ∧ C' = C ∧ hs.contains C = true then match lkF f ns vs with
    | some d => if d.imm = true then some (.ok (.t (.z d)) env) else none
    | none => none
    else none
  | _ => none
theorem pq_xf {X : Cx} {W : WX} {a C : Addr} {oe : Obj} {d : Option Addr} {pn : List (Addr × Obj)} {x f : Str} {p1 pos : Pos} {hs : List Addr} {i : Nat} {pp : Bool} (hT : ∀ C ∈ hs, XfC X.K C ∧ PySem.W.findIn X.K (.ref C) f = some none)
    (hz : Zc (.ref C) d oe) (hf : ∃ vs, oe.data = .fields vs) (he : PE (X.suite a ((a, oe) :: pn)) (.Name x p1) (tVar i)) (hb : attributeBase (.Name x p1) f X.env (eval (.Name x p1) X.env) = eval (.Name x p1) X.env := by rfl) :
    PQ (X.suite a ((a, oe) :: pn)) W pp (.Attribute (.Name x p1) f pos) (sXf a d C hs i f) := by
  by_cases hC : C ∈ hs
  · obtain ⟨T, hno⟩ := hT C hC
    refine (pe_xf T hno hz hf he hb).imp fun σ H Q ⟨Z, env, F, ok, er, r, hr, post⟩ => ?_
    unfold sXf at hr
    split at hr
    · rename_i a' dd C' ns vs hs'
      split at hr
      · rename_i hc
        obtain ⟨rfl, rfl, rfl, _⟩ := hc
        split at hr
        · rename_i v hv
          split at hr
          · rename_i hi
            cases hr
            obtain ⟨y, Fi, h1, h2, h3⟩ := er.at hs'
            cases h2 with
            | z h2 =>
              cases h2 with
              | exv hZ hn rr =>
                subst hn
                obtain ⟨w, w1, w2⟩ := lkF_reps rr hv
                exact ⟨_, h1, rfl, rfl, dd, _, w, rfl, ok.sub _ _ hZ, w1, post.here ok er (.t (.z w2))⟩
          · cases hr
        · cases hr
      · cases hr
    · cases hr
  · refine ⟨fun pins s σ H Q I ⟨Z, env, F, ok, er, r, hr, post⟩ => ?_⟩
    unfold sXf at hr
    split at hr
    · split at hr
      · rename_i hc
        exact (hC (by simpa using hc.2.2.2)).elim
      · cases hr
    · cases hr
theorem psq_tryA {X : Cx} {W : WX} {P : List Nat} {x n : Str} {c : Addr} {hs : List Addr} {i : Nat} {body suite : List Stmt} {b₀ : Stmt} {np pos pos' : Pos} {g : SM} {s : Addr → Option Addr → Addr → SM} (hst : X.stack = X.env :: X.outer) (hf : X.env.frame = some X.env.locals) (hN : X.N.Nodup) (hi : X.N[i]? = some n) (hln : X.env.kindOf n = some .local) (hc : Names X x (.ref c)) (tk : Takes X W)
    (hP : i ∉ P) (hm : ∀ a ∈ hs, PySem.W.exmOne X.K (.ref a) (.ref c) = some true)
    (hb : ∀ (W : WX) (pn : List (Addr × Obj)) (xe : Value → Shared → Prop), Takes (X.tr pn xe) W → PassesOwn (model X.prog X.w) X.A X.env xe → PBQ (X.tr pn xe) W P body g)
    (hsu : ∀ (a : Addr) (oe : Obj) (C : Addr) (d : Option Addr) (pn : List (Addr × Obj)), Zc (.ref C) d oe → (∃ vs, oe.data = .fields vs) → PBQ (X.suite a ((a, oe) :: pn)) (fun _ _ _ _ => False) P (b₀ :: suite) (s a d C)) :
    PSQ X W P (.Try body [.ExceptHandler (some (.Name x np)) (some n) (b₀ :: suite) pos'] [] [] pos) (sTryA hs i g s) :=
  (ps_try_as (tb := fun W => tS X.K W P g) (ts := tSui X.K P s) hst hf hN hi hln hc tk hb (fun a oe cls d pn hz hv => by
    cases cls with
    | ref C => exact hsu a oe C d pn hz hv
    | _ => exact ⟨fun _ _ _ _ _ _ z => z.elim⟩)).imp fun D σ H q => tryA_ok hP hm q
end DL

/-! DL33: a head's Hook with further facts; facts of exceptions. -/
namespace DL
open PySem PySem.Spec PyProof.Rows L2
abbrev AlE : Type := He.AlD × Bool
def obsE (fa : List He.Fa) (fn : List He.DefD) (ex : List (PySem.W.Frag → Bool)) (K : PySem.W.Frag) : AlE := (He.obsD fa fn K, ex.all fun f => f K)
def obsEG (n : Nat) (fa : List He.Fa) (fn : List He.DefD) (ex : List (PySem.W.Frag → Bool)) (g : Addr → Option Obj) : AlE := obsE fa fn ex (He.frG g (He.asD g n))
structure SaysE (fa : List He.Fa) (fn : List He.DefD) (ex : List (PySem.W.Frag → Bool)) (K : PySem.W.Frag) : Prop where
  d : He.SaysD fa fn K
  x : (ex.all fun f => f K) = true
def hookE (n : Nat) (fa : List He.Fa) (fn : List He.DefD) (ex : List (PySem.W.Frag → Bool)) : PySem.W.Hook where
  α := AlE
  obs := fun s => obsEG n fa fn ex s.heap.get?
  val := fun _ => (He.valD fn, true)
  says := fun _ h => ∃ K : PySem.W.Frag, K.In h ∧ SaysE fa fn ex K
  of := fun _ _ e => ⟨_, He.frG_in, ⟨congrArg (fun z : AlE => z.1) e, congrArg (fun z : AlE => z.2) e⟩⟩
  keeps := fun _ _ _ ⟨K, hK, c⟩ k => ⟨K, PySem.W.Frag.In.keeps hK k, c⟩
theorem obsEG_eq {n : Nat} {fa : List He.Fa} {fn : List He.DefD} {ex : List (PySem.W.Frag → Bool)} {g : Addr → Option Obj} {s : Shared} (h : ∀ a, g a = s.heap.get? a) : obsEG n fa fn ex g = (hookE n fa fn ex).obs s := by
  have e : g = s.heap.get? := funext h
  rw [e] <;> rfl
theorem SaysE.at {fa : List He.Fa} {fn : List He.DefD} {ex : List (PySem.W.Frag → Bool)} {K : PySem.W.Frag} (c : SaysE fa fn ex K) (i : Nat) {f : PySem.W.Frag → Bool} (h : ex[i]? = some f := by rfl) : f K = true := List.all_eq_true.mp c.x f (List.mem_of_getElem? h)
/-- an exception class with an own __init__ -/
def oexB (K : PySem.W.Frag) (C : Addr) : Bool := (match K.lookup C with
  | some ⟨.type "type", _, .cls cd, sl⟩ => (match cd.mro, sl.toList with
    | .ref C' :: bm, [_, _, _, _, some (.builtin n), _] => C' == C && (n == "ValueError.__new__" && (!cd.hasDel && (PySem.HandSPX.refsVE bm && cd.hasDict)))
    | _, _ => false)
  | _ => false) && (He.eqO (PySem.W.findIn K (.ref C) "__setattr__") (some (some (.builtin "object.__setattr__"))) && (decide (PySem.W.subIn K (.ref C) (.type "BaseException") = some true) && (decide (PySem.W.typeIn K (.ref C) = some (.type "type")) && PySem.W.keepIn K (.ref C))))
theorem oexB_ok {K : PySem.W.Frag} {C : Addr} (h : oexB K C = true) : OexC K C := by
  obtain ⟨h1, h⟩ := He.ba h
  obtain ⟨h2, h⟩ := He.ba h
  obtain ⟨h3, h⟩ := He.ba h
  obtain ⟨h4, h5⟩ := He.ba h
  refine ⟨?_, He.eqO_ok h2, of_decide_eq_true h3, of_decide_eq_true h4, h5⟩
  split at h1
  · rename_i dd cd sl ho
    split at h1
    · rename_i C' bm k0 k1 k2 k3 n k5 hm hs
      simp only [Bool.and_eq_true, beq_iff_eq, Bool.not_eq_true'] at h1
      obtain ⟨rfl, rfl, hdel, ht, hd⟩ := h1
      obtain ⟨nm, bs, mro, ns, qn, hd', sn, sub, ab, col, del⟩ := cd
      dsimp only at hm hdel hd
      subst hm hdel hd
      have hsl : sl = #[k0, k1, k2, k3, some (.builtin "ValueError.__new__"), k5] := by
        obtain ⟨l⟩ := sl
        simp only at hs
        rw [hs]
      subst hsl
      exact ⟨nm, qn, ns, bs, bm, sn, sub, ab, col, dd, k0, k1, k2, k3, k5, ho, ht⟩
    · cases h1
  · cases h1
/-- .. that stores its argument as f, by the __init__ at fI -/
def ex1B (x f : Str) (K : PySem.W.Frag) : Bool := oexB K (He.ga K x) && (He.eqO (PySem.W.findIn K (.ref (He.ga K x)) f) (some none) && (He.eqO (PySem.W.findIn K (.ref (He.ga K x)) "__init__") (some (some (.ref (He.ma K (He.ga K x) "__init__")))) && (decide (PySem.W.typeIn K (.ref (He.ma K (He.ga K x) "__init__")) = some (.type "function")) && xfB K (He.ga K x))))
theorem ex1B_ok {x f : Str} {K : PySem.W.Frag} {h : Heap} {mg : Str → Option Value} (X : K.In h) (G : h.Ns mainGlobals mg) (c : ex1B x f K = true) (g : mg x = some (.ref (He.ga K x))) : Exc1 K mg x f (He.ga K x) (He.ma K (He.ga K x) "__init__") ∧ XfC K (He.ga K x) := by
  obtain ⟨h1, h⟩ := He.ba c
  obtain ⟨h2, h⟩ := He.ba h
  obtain ⟨h3, h⟩ := He.ba h
  obtain ⟨h4, h5⟩ := He.ba h
  exact ⟨⟨g, oexB_ok h1, He.eqO_ok h2, He.eqO_ok h3, of_decide_eq_true h4⟩, xfB_ok h5⟩
theorem exc0_ok {x : Str} {K : PySem.W.Frag} {mg : Str → Option Value} (c : (He.Fa.exc x).ok K = true) (g : mg x = some (.ref (He.ga K x))) : Exc0 K mg x (He.ga K x) := by
  obtain ⟨h1, h2, h3, h4⟩ := He.exc_ok c
  exact ⟨g, h1, h2, h3, h4⟩
end DL

/-! DL34: x[k] += e, any k; dicts shown with one tuple as key. -/
namespace DL
open PySem PySem.Spec PyProof.Rows L2
theorem Pl.of_slot {K : PySem.W.Frag} {Z H : Hp} {env : En} {σ : L2.St} {F : List Addr} {i : Nat} {u : T} (er : EnvR K Z H env σ F) (hu : env[i]? = some (some u)) : ∃ v, σ[i]? = some (some v) ∧ Pl K Z H env σ F i [] u v := by
  obtain ⟨A, Fi, B, o, e1, e2, e3, e4⟩ := er.lens hu
  cases e3 with
  | @so _ v _ r =>
    refine ⟨v, e2, u, A, Fi, B, hu, rfl, e1, r, fun Z' H' zz tt k w' G r' => ?_⟩
    have z := e4 Z' H' zz tt k (some w') (some v) G (.so r')
    rw [set_same e2] at z
    exact z
def sAugAt (f : Int → Int → Int) (i : Nat) (fk fe : EM Opd) : SM := fun env => match env[i]? with
  | some (some _) => match fk env with
    | none => none
    | some (.ex x e) => some (.ex x e)
    | some (.ok ok e1) => match ok.rd e1 with
      | some kd => match e1[i]? with
        | some (some w) => match kidD w kd with
          | some (_, .z (.int a)) => match fe e1 with
            | some (.ok oe _) => match oe.rd e1 with
              | some (.int b) => match putD w kd (.z (.int (f a b))) with
                | some w' => some (.nx (e1.set i (some w')))
                | none => none
              | _ => none
            | _ => none
          | _ => none
        | _ => none
      | none => none
  | _ => none
theorem augAt_ok {K : PySem.W.Frag} {W : WX} {P : List Nat} {D : Ends} {σ : L2.St} {H : Hp} {i : Nat} {fe fk : EM Opd} {f : Int → Int → Int} (q : tS K W P (sAugAt f i fk fe) D σ H) : tAugS (tVar i) (tQ K W false fk) (tQ K W true fe) (rGet K) (ipI f) rSetA D σ H := by
  obtain ⟨Z, env, F, ok, er, o, ho, post⟩ := q
  unfold sAugAt at ho
  split at ho
  · rename_i u hu
    obtain ⟨v, hv, _⟩ := Pl.of_slot er hu
    refine ⟨v, hv, ?_⟩
    split at ho
    · cases ho
    · rename_i x e hf
      cases ho
      exact ⟨Z, env, F, ok, er, _, hf, fun d H' Z' F' a b c f => post d σ H' Z' F' a b c f Pin.refl⟩
    · rename_i okk e1 hfk
      split at ho
      · rename_i kd hkd
        split at ho
        · rename_i w hw
          split at ho
          · rename_i n a hkid
            split at ho
            · rename_i oe e4 hfe
              split at ho
              · rename_i b hb
                split at ho
                · rename_i w' hw'
                  cases ho
                  refine ⟨Z, env, F, ok, er, _, hfk, fun yk H1 Z1 F1 G1 x1 ok1 er1 or1 _ => ?_⟩
                  obtain ⟨v', hv', pl⟩ := Pl.of_slot er1 hw
                  rw [hv] at hv'; cases hv'
                  have rk := or1.look ok1.sub er1 hkd
                  obtain ⟨va, hg, plk⟩ := pl.kidD rk hkid
                  have := plk.val.v_int
                  subst this
                  refine hg _ ?_
                  refine ⟨Z1, e1, F1, ok1.left, er1, _, hfe, fun ye H5 Z5 F5 G5 x5 ok5 er5 or5 pp5 => ?_⟩
                  obtain ⟨rfl, rfl, rfl, g5⟩ := pp5 rfl
                  have := (or5.look ok5.sub er5 hb).v_int
                  subst this
                  refine ⟨a, b, rfl, rfl, ?_⟩
                  refine (pl.grown g5).putD (G := []) (by simpa using ok5.left) hw (.z .int) (rk.mono (fun a u h => g5 a u h) g5.tt) hw' fun H' F6 x6 ok6 er6 => ?_
                  have x0 := (Ext.grow0 (Z := Z5) (F := F5) g5).trans (by simpa using x6)
                  exact post σ _ _ F6 ((x1.sub fun a ha => List.mem_append_left _ ha).trans x0) ok6 er6 Pin.refl
                · cases ho
              · cases ho
            · cases ho
          · cases ho
        · cases ho
      · cases ho
  · cases ho
theorem psq_augAt {X : Cx} {W : WX} {P : List Nat} {x : Str} {p1 : Pos} {e e2 : Expr} {p2 pos : Pos} {fe fk : EM Opd} {k : Nat} {op : Operator} {f : Int → Int → Int} {i : Nat} {pp : Bool} (hp : PIp X op (ipI f)) (hr : Room k X.A) (hx : PE X (.Name x p1) (tVar i)) (hk : PQ X W pp e2 fk) (he : PQ X W true e fe)
    (ha : ∀ ov iv new, augStore e2 ov iv new = (do holding [new, ov, iv] (setItem ov iv new); release [new, ov, iv] []; pure .next) := by intros; rfl) :
    PSQ X W P (.AugAssign (.Subscript (.Name x p1) e2 p2) op e pos) (sAugAt f i fk fe) :=
  (ps_augS hx (hk.imp fun _ _ _ z => tQ_any z : PQ X W false e2 fk) (get_any (hu_of hr)) he hp (set_any (hu_of hr)) ha).imp fun D σ H q => augAt_ok q
end DL

/-! DL35: {t: v}, t a tuple. -/
namespace DL
open PySem PySem.Spec PyProof.Rows L2
def tDisp1T (tk tv : TE) : TE := fun σ H Q => ∀ p, H p = none → tk σ (upd H p (.dT [])) fun x H1 => tv σ H1 fun y H2 => H2 p = some (.dT []) ∧ ∃ (b : Addr) (ks : List Key), x = .ref b ∧ H2 b = some (.tup (ks.map kV)) ∧ Q (.ref p) (upd H2 p (.dT [(ks, y)]))
theorem pe_disp1T {X : Cx} {k v : Expr} {tk tv : TE} {pos : Pos} (hu : X.A.units + 1 < cLine) (hk : PE X k tk) (hv : PE X v tv) : PE X (.Dict [some k] [v] pos) (tDisp1T tk tv) := by
  refine ⟨fun pins s σ H Q I q => ?_⟩
  have hn := I.hok.fresh (Nat.le_refl s.heap.objs.size)
  have I1 := I.laid (a := s.heap.objs.size) (o := .dT []) (h' := s.heap.push { cls := .type "dict", data := .dict #[] }) (t' := s.toks) (fun _ _ q => Heap.get?_push_of_some _ q) (Nat.le_refl _) (dt_empty s.heap I.big)
  rw [arm_eval_Dict, zip_pairTrees [some k] [v] X.env pos rfl rfl, dictDisplay_pairs (pairTrees [some k] [v] X.env pos) (by unfold pairTrees; exact List.cons_ne_nil _ _) (by show 1 < 17; decide)]
  refine wpAny_bind (wpAny_standAt (wpAny_bind ?_))
  unfold subDict
  refine wpAny_bind (wpAny_alloc ?_)
  refine wpAny_bind (wpAny_holding ?_)
  rw [if_pos (show (pairTrees [some k] [v] X.env pos).length ≤ 15 from by show 1 ≤ 15; decide)]
  refine wpAny_bind (pairTrees_cons_walk (thn (hk.run pins _ σ _ _ I1 (q _ hn)) fun u s1 ⟨x, H1, I1', rx, q1⟩ => thn (hv.run pins s1 σ H1 _ I1' q1) fun w s2 ⟨y, H2, I2, ry, hp, b, ks, ex, hb, q2⟩ => pairTrees_nil_walk ?_))
  subst ex
  obtain rfl : u = Value.ref b := rx
  obtain ⟨z, hd, xs, rel, dd⟩ := dt_of I2.hok hp
  cases rel
  refine wpAny_holding ?_
  have fin : ∀ h' , h'.DictOfH (tupleKind (mixKind X.prog X.w)) s.heap.objs.size (storedH [] ks b w) → Heap.SameBut s.heap.objs.size s2.heap h' → ∀ tk, EP X pins σ Q (.ref s.heap.objs.size) { s2 with heap := h', toks := tk } := fun h' dd' hs tk => by
    obtain ⟨q', es, ep, hq, h2, h3, h4, _, h5⟩ := dd'
    refine ⟨.ref s.heap.objs.size, _, d_write I2 (by rw [hp]; exact True.intro) hs ⟨q', hq⟩ (ob := .dT [(ks, y)]) ?_, rfl, q2⟩
    refine ⟨by show 1 ≤ sizeLine; rw [sizeLine_eq]; omega, hd, _, (KT.put (H := H2) (kvs := []) (xs := []) .nil ks hb ry).keeps fun c ys ec => ?_, q', es, ep, hq, h2, h3, h4, h5⟩
    rw [upd_ne (ne_of ec hp (fun z => nomatch z))]
    exact ec
  refine wpAny_bind ?_
  rw [List.forIn_cons]
  refine wpAny_bind (wpAny_bind (wpAny_dictSet_heap (knd := tupleKind (mixKind X.prog X.w)) (hsz := by show 0 ≤ sizeLine; exact Nat.zero_le _) (show X.A.units < cLine from Nat.lt_of_le_of_lt (Nat.le_succ _) hu) (key_of I2.hok hb) dd fun h' dd' hs => wpAny_pure ?_))
  dsimp only
  rw [List.forIn_nil]
  exact wpAny_pure (wpAny_pure (wpAny_pure (wpAny_pure (fin h' dd' hs _))))
def sDisp1T (fk fv : EM Opd) : EM Opd := fun env => match fk env with
  | some (.ok ok e1) => match ok.rd e1 with
    | some kd => if keyOk true kd = true then match fv e1 with
      | some (.ok ov e2) => match ov.now e2 with
        | some t => some (.ok (.t (.dic true [kd] [t])) e2)
        | none => none
      | _ => none
      else none
    | none => none
  | _ => none
theorem disp1T_ok {K : PySem.W.Frag} {W : WX} {fk fv : EM Opd} {σ : L2.St} {H : Hp} {Q : VK} (h : tQ K W true (sDisp1T fk fv) σ H Q) : tDisp1T (tQ K W true fk) (tQ K W true fv) σ H Q := by
  obtain ⟨Z, env, F, ok, er, r, hr, post⟩ := h
  intro p hp
  have g := grow_upd (o := .dT []) hp
  have ok' := ok.grow0 g
  have er' := er.grown g
  unfold sDisp1T at hr
  split at hr
  · rename_i okk e1 hfk
    split at hr
    · rename_i kd hkd
      split at hr
      · rename_i hkey
        split at hr
        · rename_i ov e2 hfv
          split at hr
          · rename_i t ht
            cases hr
            refine ⟨Z, env, F, ok', er', _, hfk, fun x H1 Z1 F1 G1 x1 ok1 er1 or1 pp1 => ?_⟩
            obtain ⟨rfl, rfl, rfl, g1⟩ := pp1 rfl
            refine ⟨Z1, e1, F1, ok1.left, er1, _, hfv, fun y H2 Z2 F2 G2 x2 ok2 er2 or2 pp2 => ?_⟩
            obtain ⟨rfl, rfl, rfl, g2⟩ := pp2 rfl
            have rk := (or1.look ok1.sub er1 hkd).mono (Z' := H2) (H' := H2) (fun a u h => g2 a u h) g2.tt
            have rt := now_ok ok2 er2 or2 ht
            have hp2 : H2 p = some (.dT []) := g2 _ _ (g1 _ _ upd_same)
            have pF : p ∉ F2 := fun m => by have := ok.mu p m; rw [hp] at this; exact this
            have pG : p ∉ G2 := fun m => by
              have := (List.nodup_append.mp ok2.nod)
              rcases x2.ff p (List.mem_append_right _ m) with z | z
              · exact pF z
              · rw [g1 _ _ upd_same] at z; cases z
            have pZ : Z2 p = none := by
              cases e : Z2 p with
              | none => rfl
              | some o => have := ok.sub p o e; rw [hp] at this; cases this
            cases kd with
            | tup ds =>
              simp only [keyOk, Option.isSome_iff_exists] at hkey
              obtain ⟨ks, hks⟩ := hkey
              have := dKeys_eq hks
              subst this
              cases rk with
              | @tup b vs _ hb rr =>
                have := reps_keys rr
                subst this
                refine ⟨hp2, b, ks, rfl, hb, ?_⟩
                have tt : ∀ c xs, H2 c = some (.tup xs) → (upd H2 p (.dT [(ks, y)])) c = some (.tup xs) := fun c xs h => by
                  rw [upd_ne (fun z => by subst z; rw [hp2] at h; cases h)]; exact h
                have kp : ∀ b ∈ F2 ++ G2, ∀ o, H2 b = some o → (upd H2 p (.dT [(ks, y)])) b = some o := fun b hb o h => by
                  rw [upd_ne (fun z => by
                    subst z
                    rcases List.mem_append.mp hb with w | w
                    · exact pF w
                    · exact pG w)]; exact h
                have er3 := er2.keep (Z' := Z2) (H' := upd H2 p (.dT [(ks, y)])) (fun _ _ h => h) tt fun b hb => kp b (List.mem_append_left _ hb)
                have r4 := rt.keep (Z' := Z2) (H' := upd H2 p (.dT [(ks, y)])) (fun _ _ h => h) tt fun b hb => kp b (List.mem_append_right _ hb)
                have rD : RepT K Z2 (upd H2 p (.dT [(ks, y)])) (.dic true [.tup (ks.map keyD)] [t]) (.ref p) (p :: (G2 ++ [])) := .dic upd_same ⟨[(ks, y)], rfl, rfl, rfl, by simp⟩ (.cons r4 .nil)
                rw [List.append_nil] at rD
                have gg : Grow H (upd H2 p (.dT [(ks, y)])) := fun a u h => by
                  rw [upd_ne (fun z => by subst z; rw [hp] at h; cases h)]
                  exact g2 a u (g1 a u (g a u h))
                have ndF := List.nodup_append.mp ok2.nod
                refine post (.ref p) _ Z2 F2 (p :: G2) ⟨fun _ _ h => h, fun a o h _ => gg a o h, fun a m => ?_, fun _ _ h => .inl h⟩ ⟨fun a o h => ?_, ?_, fun a m => ?_, fun a m => ?_⟩ er3 (.t rD) fun _ => ⟨rfl, rfl, rfl, gg⟩
                · rcases List.mem_append.mp m with z | z
                  · exact .inl z
                  · rcases List.mem_cons.mp z with rfl | z
                    · exact .inr hp
                    · rcases x2.ff a (List.mem_append_right _ z) with w | w
                      · exact .inl w
                      · refine .inr ?_
                        cases e : H a with
                        | none => rfl
                        | some o => rw [g1 a o (g a o e)] at w; cases w
                · have na : a ≠ p := fun z => by subst z; rw [pZ] at h; cases h
                  rw [upd_ne na]
                  exact ok2.sub a o h
                · refine List.nodup_append.mpr ⟨ndF.1, List.nodup_cons.mpr ⟨pG, ndF.2.1⟩, fun a ha b hb e => ?_⟩
                  rcases List.mem_cons.mp hb with z | z
                  · subst e; subst z; exact pF ha
                  · exact ndF.2.2 a ha b z e
                · rcases List.mem_append.mp m with z | z
                  · exact ok2.dis a (List.mem_append_left _ z)
                  · rcases List.mem_cons.mp z with rfl | z
                    · exact pZ
                    · exact ok2.dis a (List.mem_append_right _ z)
                · rcases List.mem_append.mp m with z | z
                  · have na : a ≠ p := fun w => pF (by rw [← w]; exact z)
                    rw [upd_ne na]; exact ok2.mu a (List.mem_append_left _ z)
                  · rcases List.mem_cons.mp z with rfl | z
                    · rw [upd_same]; trivial
                    · have na : a ≠ p := fun w => pG (by rw [← w]; exact z)
                      rw [upd_ne na]; exact ok2.mu a (List.mem_append_right _ z)
            | _ => simp at hkey
          · cases hr
        · cases hr
      · cases hr
    · cases hr
  · cases hr
theorem pq_disp1T {X : Cx} {W : WX} {k v : Expr} {pos : Pos} {fk fv : EM Opd} {kk : Nat} (hr : Room kk X.A) (hk : PQ X W true k fk) (hv : PQ X W true v fv) : PQ X W true (.Dict [some k] [v] pos) (sDisp1T fk fv) :=
  (pe_disp1T (hu_of hr) hk hv).imp fun _ _ _ h => disp1T_ok h
end DL

/-! DL36: evaluation of the later readings; steps by what holds behind them. -/
namespace DL
open PySem PySem.Spec PyProof.Rows L2
section
variable {g h s : SM} {f fa fb fc fi fe fk fv : EM Opd} {fr : EM (List Opd)} {o o1 o2 : En → List Opd → Option Opd} {env : En} {i n m : Nat} {pl : PlM} {cl C : Addr} {hs : List Addr} {str : Str}
@[simp] theorem oElse_ap {os : List Opd} : oElse o1 o2 env os = (match o1 env os with
  | some r => some r
  | none => o2 env os) := rfl
@[simp] theorem sAugAt_ap {op : Int → Int → Int} : sAugAt op i fk fe env = (match env[i]? with
  | some (some _) => match fk env with
    | none => none
    | some (.ex x e) => some (.ex x e)
    | some (.ok ok e1) => match ok.rd e1 with
      | some kd => match e1[i]? with
        | some (some w) => match kidD w kd with
          | some (_, .z (.int a)) => match fe e1 with
            | some (.ok oe _) => match oe.rd e1 with
              | some (.int b) => match putD w kd (.z (.int (op a b))) with
                | some w' => some (.nx (e1.set i (some w')))
                | none => none
              | _ => none
            | _ => none
          | _ => none
        | _ => none
      | none => none
  | _ => none) := rfl
@[simp] theorem sAugP_ap {op : Int → Int → Int} : sAugP op pl fk fe env = (match pl env with
  | some (i, p, w) => match fk env with
    | some (.ok ok _) => match ok.rd env with
      | some kd => match kidD w kd with
        | some (_, .z (.int a)) => match fe env with
          | some (.ok oe _) => match oe.rd env with
            | some (.int b) => match putD w kd (.z (.int (op a b))) with
              | some w' => match env[i]? with
                | some (some u) => some (.nx (env.set i (some (u.put p w'))))
                | _ => none
              | none => none
            | _ => none
          | _ => none
        | _ => none
      | none => none
    | _ => none
  | none => none) := rfl
@[simp] theorem sPutP_ap : sPutP pl fe fk env = (match fe env with
  | none => none
  | some (.ex x e) => some (.ex x e)
  | some (.ok o e) => match o.take e with
    | none => none
    | some (t, e') => match pl e' with
      | some (i, p, w) => match fk e' with
        | some (.ok ok _) => match ok.rd e' with
          | some kd => match putD w kd t with
            | some w' => match e'[i]? with
              | some (some u) => some (.nx (e'.set i (some (u.put p w'))))
              | _ => none
            | none => none
          | none => none
        | _ => none
      | none => none) := rfl
@[simp] theorem plV_ap : plV i env = (match env[i]? with
  | some (some u) => some (i, [], u)
  | _ => none) := rfl
@[simp] theorem T_put_nil (u w : T) : u.put [] w = w := rfl
@[simp] theorem sAppP_ap : sAppP pl f env = (match pl env with
  | some (i, p, .lst ts) => match f env with
    | some (.ok o _) => match o.now env with
      | some t => match env[i]? with
        | some (some u) => if ts.length < sizeLine then some (.nx (env.set i (some (u.put p (.lst (ts ++ [t])))))) else none
        | _ => none
      | none => none
    | _ => none
  | _ => none) := rfl
@[simp] theorem sChain_ap : sChain o1 o2 fa fb fc env = (match fa env with
  | some (.ok a e1) => match fb e1 with
    | some (.ok b e2) => match o1 e2 [a, b] with
      | some (.t (.z (.bl true))) => match fc e2 with
        | some (.ok c e3) => match o2 e3 [b, c] with
          | some r => some (.ok r e3)
          | none => none
        | _ => none
      | some (.t (.z (.bl false))) => some (.ok (.t (.z (.bl false))) e2)
      | _ => none
    | _ => none
  | _ => none) := rfl
@[simp] theorem sRaise0_ap : sRaise0 C env = some (.ex ⟨C, [], []⟩ env) := rfl
@[simp] theorem sRaise1_ap : sRaise1 C str fa env = (match fa env with
  | some (.ok o e) => match o.rd e with
    | some d => if d.imm = true then some (.ex ⟨C, [str], [d]⟩ e) else none
    | none => none
  | some (.ex x e) => some (.ex x e)
  | none => none) := rfl
@[simp] theorem sTryO_ap : sTryO hs g s env = (match g env with
  | some (.ex x e) => if hs.contains x.C = true then match s e with
    | some (.ex _ _) => none
    | r => r
    else none
  | r => r) := rfl
@[simp] theorem sDNew_ap {b : Bool} : sDNew b env = some (.ok (.t (.dic b [] [])) env) := rfl
@[simp] theorem sDisp1T_ap : sDisp1T fk fv env = (match fk env with
  | some (.ok ok e1) => match ok.rd e1 with
    | some kd => if keyOk true kd = true then match fv e1 with
      | some (.ok ov e2) => match ov.now e2 with
        | some t => some (.ok (.t (.dic true [kd] [t])) e2)
        | none => none
      | _ => none
      else none
    | none => none
  | _ => none) := rfl
@[simp] theorem sMake_ap {k : Nat} {Fn : FSem} : sMake C k Fn fr env = (match fr env with
  | none => none
  | some (.ex x e) => some (.ex x e)
  | some (.ok os e) => match takeIO [] os e with
    | none => none
    | some (ts, e1) => if ts.length = k then match Fn (.obj C [] [] :: ts) with
      | some (.rt (.z .non) [t]) => some (.ok (.t t) e1)
      | some (.ex x [_]) => some (.ex x e1)
      | _ => none
      else none) := rfl
end
/-! ### ranges -/
theorem rgOk_nat {n : Nat} (h : n < 10000) : rgOk 0 n = true := rgOk_iff.mpr (RgOk.of_le (by omega) (by omega) (by omega) (by omega))
@[simp] theorem sRg1_ap {tu : Bool} {f : EM Opd} {env e : En} {o : Opd} {n : Nat} (h : f env = some (.ok o e)) (hr : o.rd env = some (.int n)) (hn : n < 10000) : sRg1 tu f env = some (.ok (.t (if tu then .z (.tup (rngD 0 n)) else .lst ((rngD 0 n).map .z))) env) := by
  unfold sRg1
  rw [h]
  simp only [hr]
  unfold rgT
  rw [rgOk_nat hn]
  simp
/-! ### steps -/
/-- g goes from env to e -/
theorem seq_nx {g h : SM} {env e : En} {o : Option Out} (x : g env = some (.nx e)) (y : h e = o) : sSeq g h env = o := by rw [sSeq_ap, x]; exact y
theorem seq_rt {g h : SM} {env e : En} {t : T} {o : Option Out} (x : g env = some (.rt t e)) (y : some (.rt t e) = o) : sSeq g h env = o := by rw [sSeq_ap, x]; exact y
theorem seq_ex {g h : SM} {env e : En} {x : Exc} {o : Option Out} (q : g env = some (.ex x e)) (y : some (.ex x e) = o) : sSeq g h env = o := by rw [sSeq_ap, q]; exact y
theorem ifS_t {c : EM Bool} {g h : SM} {env e : En} {o : Option Out} (x : c env = some (.ok true e)) (y : g e = o) : sIfS c g h env = o := by rw [sIfS_ap, x]; exact y
theorem ifS_f {c : EM Bool} {g h : SM} {env e : En} {o : Option Out} (x : c env = some (.ok false e)) (y : h e = o) : sIfS c g h env = o := by rw [sIfS_ap, x]; exact y
/-- ends from env at what Q says -/
def Run (g : SM) (env : En) (Q : Out → Prop) : Prop := ∃ o, g env = some o ∧ Q o
theorem Run.of {g : SM} {env : En} {Q : Out → Prop} {o : Out} (h : g env = some o) (q : Q o) : Run g env Q := ⟨o, h, q⟩
theorem Run.seq {g h : SM} {env e : En} {Q : Out → Prop} (x : g env = some (.nx e)) (y : Run h e Q) : Run (sSeq g h) env Q := by
  obtain ⟨o, h1, h2⟩ := y
  exact ⟨o, seq_nx x h1, h2⟩
theorem Run.seqR {g h : SM} {env : En} {Q : Out → Prop} (x : Run g env fun o => match o with | .nx e => Run h e Q | o => Q o) : Run (sSeq g h) env Q := by
  obtain ⟨o, h1, h2⟩ := x
  cases o with
  | nx e =>
    obtain ⟨o', h3, h4⟩ := h2
    exact ⟨o', seq_nx h1 h3, h4⟩
  | _ => exact ⟨_, by rw [sSeq_ap, h1], h2⟩
theorem Run.mono {g : SM} {env : En} {Q Q' : Out → Prop} (x : Run g env Q) (i : ∀ o, Q o → Q' o) : Run g env Q' := by
  obtain ⟨o, h1, h2⟩ := x
  exact ⟨o, h1, i o h2⟩
/-- a loop over data by an invariant, its body by what holds behind it -/
theorem run_forF {s : GM} {g : SM} {Q : Out → Prop} (I : List D → En → Prop) : ∀ (ds p : List D) (env : En), I p env → (∀ p' d q env, p ++ ds = p' ++ d :: q → I p' env → ∃ e1, s (.z d) env = some e1 ∧ Run g e1 fun o => match o with
    | .nx e2 => I (p' ++ [d]) e2
    | .ct e2 => I (p' ++ [d]) e2
    | .bk e2 => Q (.nx e2)
    | o => Q o) → (∀ e, I (p ++ ds) e → Q (.nx e)) → ∃ o, forF s g ds env = some o ∧ Q o
  | [], p, env, h0, _, he => ⟨.nx env, rfl, he env (by simpa using h0)⟩
  | d :: ds, p, env, h0, h, he => by
    obtain ⟨e1, h1, o, h2, h3⟩ := h p d ds env rfl h0
    unfold forF
    rw [h1]
    cases o with
    | nx e2 =>
      obtain ⟨o', h4, h5⟩ := run_forF I ds (p ++ [d]) e2 h3 (fun p' d' q env' x => h p' d' q env' (by rw [← x]; simp)) (fun e he' => he e (by simpa using he'))
      exact ⟨o', by simp only [h2]; exact h4, h5⟩
    | ct e2 =>
      obtain ⟨o', h4, h5⟩ := run_forF I ds (p ++ [d]) e2 h3 (fun p' d' q env' x => h p' d' q env' (by rw [← x]; simp)) (fun e he' => he e (by simpa using he'))
      exact ⟨o', by simp only [h2]; exact h4, h5⟩
    | bk e2 => exact ⟨.nx e2, by simp only [h2], h3⟩
    | rt t e2 => exact ⟨_, by simp only [h2], h3⟩
    | ex x e2 => exact ⟨_, by simp only [h2], h3⟩
theorem fn_nx {n m : Nat} {g : SM} {ts : List T} {e : En} {io : List Bool} {fin : List T} (hl : ts.length = n) (h : g (ts.map some ++ List.replicate (m - n) none) = some (.nx e)) (hf : fins io e = some fin) : fnOf n m io g ts = some (.rt (.z .non) fin) := by
  rw [fnOf_ap, if_pos hl, h]
  simp only [hf]
theorem fn_ex {n m : Nat} {g : SM} {ts : List T} {e : En} {x : Exc} (hl : ts.length = n) (h : g (ts.map some ++ List.replicate (m - n) none) = some (.ex x e)) : fnOf n m [] g ts = some (.ex x []) := by
  rw [fnOf_ap, if_pos hl, h]
  rfl
end DL

/-! DL37: displays that take the names' values with them (behind return). -/
namespace DL
open PySem PySem.Spec PyProof.Rows L2
@[simp] def mvs : List Opd → En → Option (List T × En)
  | [], env => some ([], env)
  | o :: os, env => match o.mv env with
    | none => none
    | some (t, e1) => match mvs os e1 with
      | none => none
      | some (ts, e2) => some (t :: ts, e2)
section
variable {K : PySem.W.Frag} {σ : L2.St}
theorem mvs_ok {H : Hp} : ∀ {os : List Opd} {env env' : En} {ts : List T} {vs : List V} {Z : Hp} {F G : List Addr}, Ok Z H (F ++ G) → EnvR K Z H env σ F → OpdRs K Z H σ os vs G → mvs os env = some (ts, env') →
    ∃ Z' F' G', Ext Z H (F ++ G) Z' H (F' ++ G') ∧ Ok Z' H (F' ++ G') ∧ EnvR K Z' H env' σ F' ∧ RepTs K Z' H ts vs G'
  | [], env, env', ts, vs, Z, F, G, ok, er, r, e => by
    simp only [mvs, Option.some.injEq, Prod.mk.injEq] at e
    obtain ⟨rfl, rfl⟩ := e
    cases r
    exact ⟨Z, F, [], Ext.refl, ok, er, .nil⟩
  | o :: os, env, env', ts, vs, Z, F, G, ok, er, r, e => by
    cases r with
    | @cons _ v G1 _ vs G2 a b =>
      simp only [mvs] at e
      split at e
      · cases e
      · rename_i t e1 h1
        split at e
        · cases e
        · rename_i ts' e2 h2
          simp only [Option.some.injEq, Prod.mk.injEq] at e
          obtain ⟨rfl, rfl⟩ := e
          have ok' : Ok Z H ((F ++ G1) ++ G2) := by rw [List.append_assoc]; exact ok
          obtain ⟨F1, G1', x1, ok1, er1, r1⟩ := mv_ok ok'.left er a h1
          have okb : Ok Z H ((F1 ++ G1') ++ G2) := Ok.beside x1 ok1 ok'
          have pm1 : ((F1 ++ G1') ++ G2).Perm ((F1 ++ G2) ++ G1') := by
            simp only [List.append_assoc]
            exact List.Perm.append_left F1 List.perm_append_comm
          have okc : Ok Z H ((F1 ++ G2) ++ G1') := okb.perm pm1
          have b' : OpdRs K Z H σ os vs G2 := by
            have okx : Ok Z H ((F ++ G1) ++ G2) := ok'
            exact b.later x1 okx (fun _ _ z => z)
          obtain ⟨Z2, F2, G2', x2, ok2, er2, r2⟩ := mvs_ok okc.left er1 b' h2
          have okd : Ok Z2 H ((F2 ++ G2') ++ G1') := Ok.beside x2 ok2 okc
          have pm2 : ((F2 ++ G2') ++ G1').Perm (F2 ++ (G1' ++ G2')) := by
            rw [List.append_assoc]
            exact List.Perm.append_left F2 List.perm_append_comm
          refine ⟨Z2, F2, G1' ++ G2', ?_, okd.perm pm2, er2, .cons (r1.frame x2 okc) r2⟩
          have xa : Ext Z H ((F ++ G1) ++ G2) Z H ((F1 ++ G1') ++ G2) := x1.wide
          have xb : Ext Z H ((F1 ++ G2) ++ G1') Z2 H ((F2 ++ G2') ++ G1') := x2.wide
          have xc := (xa.sub fun a ha => pm1.mem_iff.mpr ha).trans xb
          have xd := xc.sub (F2 := F2 ++ (G1' ++ G2')) fun a ha => pm2.mem_iff.mpr ha
          rw [List.append_assoc] at xd
          exact xd
end
def sTakeM (h : List T → Option T) (fr : EM (List Opd)) : EM Opd := fun env => match fr env with
  | none => none
  | some (.ex x e) => some (.ex x e)
  | some (.ok os e) => match mvs os e with
    | none => none
    | some (ts, e') => match h ts with
      | none => none
      | some t => some (.ok (.t t) e')
@[simp] theorem sTakeM_ap {h : List T → Option T} {fr : EM (List Opd)} {env : En} : sTakeM h fr env = (match fr env with
  | none => none
  | some (.ex x e) => some (.ex x e)
  | some (.ok os e) => match mvs os e with
    | none => none
    | some (ts, e') => match h ts with
      | none => none
      | some t => some (.ok (.t t) e')) := rfl
section
variable {K : PySem.W.Frag} {W : WX} {σ : L2.St} {H : Hp} {fr : EM (List Opd)} {Q : VK}
theorem dispTM_ok (q : tQ K W false (sTakeM hTup fr) σ H Q) : tTup (tAQ K W false fr) σ H Q := by
  obtain ⟨Z, env, F, ok, er, r, hr, post⟩ := q
  unfold sTakeM at hr
  split at hr
  · cases hr
  · rename_i x e hf
    cases hr
    exact ⟨Z, env, F, ok, er, _, hf, post⟩
  · rename_i os e hf
    split at hr
    · cases hr
    · rename_i ts e' ht
      unfold hTup at hr
      split at hr
      · cases hr
      · rename_i t hh
        cases hr
        split at hh
        · rename_i hl
          cases hh
          refine ⟨Z, env, F, ok, er, _, hf, fun vs H1 Z1 F1 G1 x1 ok1 er1 or1 _ => ?_⟩
          obtain ⟨Z2, F2, G2, x2, ok2, er2, r2⟩ := mvs_ok ok1 er1 or1 ht
          refine ⟨by rw [← r2.length]; exact hl, fun p hp => ?_⟩
          have g := grow_upd (o := .tup vs) hp
          have nF : ∀ a ∈ F2 ++ G2, a ≠ p := fun a ha e => by
            subst e
            have m := ok2.mu a ha
            rw [hp] at m; exact m
          have ok3 : Ok Z2 (upd H1 p (.tup vs)) (F2 ++ G2) := ⟨fun a o h => g a o (ok2.sub a o h), ok2.nod, ok2.dis, fun a ha => by rw [upd_ne (nF a ha)]; exact ok2.mu a ha⟩
          have x3 : Ext Z2 H1 (F2 ++ G2) Z2 (upd H1 p (.tup vs)) (F2 ++ G2) := ⟨fun _ _ h => h, fun a o h _ => g a o h, fun a h => .inl h, fun _ _ h => .inl h⟩
          have rt : ∃ G3, RepT K Z2 (upd H1 p (.tup vs)) (mkTup ts) (.ref p) G3 ∧ G3 = G2 := by
            unfold mkTup
            split
            · rename_i ds hz
              have e0 := zs_noF hz r2
              exact ⟨[], .z (.tup upd_same ((zs_ok hz r2).grown g)), e0.symm⟩
            · exact ⟨G2, .tup upd_same (r2.grown g), rfl⟩
          obtain ⟨G3, rt, rfl⟩ := rt
          exact post (.ref p) _ Z2 F2 G3 ((x1.trans x2).trans x3) ok3 (er2.grown g) (.t rt) fun z => nomatch z
        · cases hh
theorem dispLM_ok (q : tQ K W false (sTakeM hLst fr) σ H Q) : tLst (tAQ K W false fr) σ H Q := by
  obtain ⟨Z, env, F, ok, er, r, hr, post⟩ := q
  unfold sTakeM at hr
  split at hr
  · cases hr
  · rename_i x e hf
    cases hr
    exact ⟨Z, env, F, ok, er, _, hf, post⟩
  · rename_i os e hf
    split at hr
    · cases hr
    · rename_i ts e' ht
      unfold hLst at hr
      split at hr
      · cases hr
      · rename_i t hh
        cases hr
        split at hh
        · rename_i hl
          cases hh
          refine ⟨Z, env, F, ok, er, _, hf, fun vs H1 Z1 F1 G1 x1 ok1 er1 or1 _ => ?_⟩
          obtain ⟨Z2, F2, G2, x2, ok2, er2, r2⟩ := mvs_ok ok1 er1 or1 ht
          refine ⟨by rw [← r2.length]; exact hl, fun p hp => ?_⟩
          have g := grow_upd (o := .lst vs) hp
          have ok3 : Ok Z2 (upd H1 p (.lst vs)) ((F2 ++ G2) ++ [p]) := ok2.grown g (fresh1 hp) (by simp) fun a ha => by rw [List.mem_singleton.mp ha, upd_same]; trivial
          have x3 : Ext Z2 H1 (F2 ++ G2) Z2 (upd H1 p (.lst vs)) ((F2 ++ G2) ++ [p]) := Ext.grown g (fresh1 hp)
          have pm : ((F2 ++ G2) ++ [p]).Perm (F2 ++ (p :: G2)) := by
            rw [List.append_assoc]
            exact List.Perm.append_left F2 List.perm_append_comm
          exact post (.ref p) _ Z2 F2 (p :: G2) (((x1.trans x2).trans x3).sub fun a ha => pm.mem_iff.mpr ha) (ok3.perm pm) (er2.grown g) (.t (.lst upd_same (r2.grown g))) fun z => nomatch z
        · cases hh
end
section
variable {X : Cx} {W : WX} {es : List Expr} {pos : Pos} {p : Bool} {fr : EM (List Opd)}
theorem pq_tupM {k} (h : PAQ X W p es fr) : PQ X W false (.Tuple es k pos) (sTakeM hTup fr) := (pe_tup (h.imp fun _ _ _ z => tAQ_any z : PAQ X W false es fr)).imp fun _ _ _ q => dispTM_ok q
theorem pq_lstM (h : PAQ X W p es fr) : PQ X W false (.List es pos) (sTakeM hLst fr) := (pe_lst (h.imp fun _ _ _ z => tAQ_any z : PAQ X W false es fr)).imp fun _ _ _ q => dispLM_ok q
end
end DL

/-! DL38: a list turned round. -/
namespace DL
open PySem PySem.Spec PyProof.Rows L2
def sRevL (fa : EM Opd) : EM Opd := fun env => match fa env with
  | none => none
  | some (.ex x e) => some (.ex x e)
  | some (.ok a e) => match a.tt e with
    | some u => match u.elsL with
      | some ds => some (.ok (.t (.lst (ds.reverse.map .z))) e)
      | none => none
    | none => none
@[simp] theorem sRevL_ap {fa : EM Opd} {env : En} : sRevL fa env = (match fa env with
  | none => none
  | some (.ex x e) => some (.ex x e)
  | some (.ok a e) => match a.tt e with
    | some u => match u.elsL with
      | some ds => some (.ok (.t (.lst (ds.reverse.map .z))) e)
      | none => none
    | none => none) := rfl
theorem Reps.app {K : PySem.W.Frag} {Z H : Hp} : ∀ {ds : List D} {vs : List V} {ds' : List D} {vs' : List V}, Reps K Z H ds vs → Reps K Z H ds' vs' → Reps K Z H (ds ++ ds') (vs ++ vs')
  | [], _, _, _, .nil, s => s
  | _ :: _, _, _, _, .cons a r, s => .cons a (Reps.app r s)
theorem Reps.rev {K : PySem.W.Frag} {Z H : Hp} : ∀ {ds : List D} {vs : List V}, Reps K Z H ds vs → Reps K Z H ds.reverse vs.reverse
  | [], _, .nil => .nil
  | d :: ds, _, .cons a r => by
    rw [List.reverse_cons, List.reverse_cons]
    exact Reps.app (Reps.rev r) (.cons a .nil)
theorem revL_ok {K : PySem.W.Frag} {W : WX} {p : Bool} {fa : EM Opd} {σ : L2.St} {H : Hp} {Q : VK} (h : tQ K W p (sRevL fa) σ H Q) : tRevL K (tQ K W p fa) σ H Q := by
  obtain ⟨Z, env, F, ok, er, r, hr, post⟩ := h
  unfold sRevL at hr
  split at hr
  · cases hr
  · rename_i x e hf
    cases hr
    exact ⟨Z, env, F, ok, er, _, hf, post⟩
  · rename_i a e hf
    split at hr
    · rename_i u hu
      split at hr
      · rename_i ds hds
        cases hr
        refine ⟨Z, env, F, ok, er, _, hf, fun x H1 Z1 F1 G1 x1 ok1 er1 or1 pp1 => ?_⟩
        have seen := or1.seen er1 hu
        obtain ⟨b, vs, rfl, hp, rr⟩ := seen.elsL ok1.sub hds
        refine ⟨b, vs, rfl, SqL.of hp, fun q hq => ?_⟩
        have nl := new_lst (K := K) (Z := Z1) (σ := σ) hq rr.rev
        have g4 := grow_upd (o := .lst vs.reverse) hq
        have ok4 := ok1.left.grown g4 (fresh1 hq) (by simp) nl.mu
        have ff : ∀ a ∈ [q], H1 a = none := fun a ha => by rw [List.mem_singleton.mp ha]; exact hq
        have xx : Ext Z1 H1 (F1 ++ G1) Z1 H1 F1 := Ext.subF fun a ha => List.mem_append_left _ ha
        refine post _ _ Z1 F1 [q] ((x1.trans xx).trans (Ext.grown g4 (fresh1 hq))) ok4 (er1.grown g4) nl fun hp => ?_
        obtain ⟨h1, h2, h3, h4⟩ := pp1 hp
        exact ⟨h1, h2, h3, fun a u h => g4 a u (h4 a u h)⟩
      · cases hr
    · cases hr
theorem pq_revL {X : Cx} {W : WX} {p : Bool} {e : Expr} {fa : EM Opd} {k : Nat} {p1 p2 p3 pos : Pos} (he : PQ X W p e fa) : PQ X W p (.Subscript e (.Slice none none (some (.UnaryOp .USub (.Constant (.int 1) k p1) p2)) p3) pos) (sRevL fa) :=
  (pe_revL he).imp fun _ _ _ h => revL_ok h
end DL

/-! DL39: max of a tuple of ints. -/
namespace DL
open PySem PySem.Spec PyProof.Rows L2
def rMaxT (K : PySem.W.Frag) : List V → Hp → VK → Prop := fun vs H Q => ∃ (a : Addr) (n : Int) (ns : List Int), vs = [V.ref a] ∧ SqT K H a ((n :: ns).map V.int) ∧ Q (.int (ns.foldl max n)) H
theorem depth_ints : ∀ ns : List Int, PyData.depthAll (ns.map PyData.int) = 0
  | [] => rfl
  | n :: ns => by
    rw [List.map_cons, PyData.depthAll, depth_ints ns]
    rfl
theorem alike_ints (ns : List Int) : PySem.W.AlikeAll (ns.map PyData.int) := by
  constructor
  · intro x hx y hy
    obtain ⟨a, _, rfl⟩ := List.mem_map.mp hx
    obtain ⟨b, _, rfl⟩ := List.mem_map.mp hy
    rfl
  · intro x hx
    obtain ⟨a, _, rfl⟩ := List.mem_map.mp hx
    exact fun e => by cases e
theorem cr_maxT {X : Cx} {k : Nat} (hr : Room k X.A) (hc : X.calm = true) : CallR X (.builtin "max") (rMaxT X.K) := by
  intro pins s σ H vs us Q I r h
  obtain ⟨a, n, ns, rfl, hs, q⟩ := h
  obtain ⟨its, rv, hl, _⟩ := I.tuple hs
  rw [Vals.ref1 r]
  have hu := hu65 hr
  refine PySem.W.max_tuple_data (I.ok.hd hc) hl (x := .int n) (xs := ns.map .int) (ints_readAll _ rv.ints) (alike_ints (n :: ns)) ?_ fun i v h' tk bs hv hrd hk => ?_
  · have := depth_ints (n :: ns)
    rw [List.map_cons] at this
    rw [this]; omega
  · rw [PySem.W.maxD_ints] at hrd
    cases hrd
    exact ⟨.int _, H, I.kept hk, ⟨_, rfl⟩, q⟩
@[simp] def gMaxT : List D → Option D
  | [.tup ds] => match dInts ds with
    | some (n :: ns) => some (.int (ns.foldl max n))
    | _ => none
  | _ => none
theorem link_maxT {K : PySem.W.Frag} : Link K (oS gMaxT) (rMaxT K) := by
  refine link_S fun H xs ds d Q r e q => ?_
  unfold gMaxT at e
  split at e
  · split at e
    · rename_i n ns hn
      cases e
      obtain ⟨x, rfl, r1⟩ := r.one
      cases r1 with
      | tup h r2 =>
        rw [reps_ints_eq r2 hn] at h
        exact ⟨_, n, ns, rfl, SqT.of h, q⟩
    · cases e
  · cases e
section
variable {X : Cx} {W : WX} {e : Expr} {p1 pos : Pos} {p : Bool} {f : EM Opd}
theorem pq_maxT {k : Nat} (hr : Room k X.A) (hc : X.calm = true) (hg : Gl X "max") (hm : X.mg "max" = none) (he : PQ X W p e f) (hs : starEach [e] X.env = (false, eval e X.env) :: starEach [] X.env := by rfl) (hpl : (backTo pos (starEach [] X.env)).any (·.1) = false := by rfl) :
    PQ X W p (.Call (.Name "max" p1) [e] [] pos) (sO (oS gMaxT) (sCons true f sNil)) := by
  have h := pq_blt (pos := pos) (p := p1) (cr_maxT hr hc) link_maxT hg hm (by decide +kernel) (paq_cons he (paq_nil (p := true)) hs) (by decide) (by decide) hs hpl
  simpa using h
end
end DL

set_option maxHeartbeats 4000000
/-! DL40: tuple * int, from 1 on. -/
namespace DL
open PySem PySem.Spec PyProof.Rows L2
theorem tuple_mulW1 (l : Addr) (items : Array Value) (n : Nat) (dd : Option Addr) (sl : Array (Option Value)) (u : Tok) :
    Meets (Builtin.«tuple.__mul__» ⟨[.ref l, .int 1 u], []⟩) (fun _ R s => s.heap.get? l = some { cls := .type "tuple", dict := dd, data := .seq items n, slots := sl } ∧ R (.ok (.ret (Value.ref l))) s) :=
  .of_wp fun prog w A R s h => by
    obtain ⟨hp, g, d, tk, os⟩ := s
    obtain ⟨hl, h⟩ := h
    have f1 := AutoSeq1.idx_int
    have c1 : (items.isEmpty || (1 : Int) == 1) = true := by rw [Bool.or_eq_true]; exact .inr rfl
    wp_walk using wpAny_loadPart' hl
    repeat (first
      | (refine wpAny_ite_false (decide_eq_false (by decide)) ?_; wp_walk using wpAny_loadPart' hl)
      | (refine wpAny_ite_true (decide_eq_true c1) ?_; wp_walk using wpAny_loadPart' hl))
    exact ⟨_, rfl, h⟩
def rRepT1 (K : PySem.W.Frag) : R2 := fun x y H Q => ∃ l xs, x = .ref l ∧ y = .int 1 ∧ SqT K H l xs ∧ Q (.ref l) H
theorem op_repT1 {X : Cx} : OpR X (binaryOp .Mult) (rRepT1 X.K) := by
  intro pins s σ H x y v u Q I rx ry h
  obtain ⟨l, xs, rfl, rfl, hT, q⟩ := h
  cases rx
  obtain ⟨t, rfl⟩ := ry
  obtain ⟨its, r, ⟨⟨cls, dd, data, sl⟩, ho, hc, n, hd⟩, hs⟩ := I.tuple hT
  simp only at hc hd
  subst hc hd
  refine wpAny_binaryOp_repeat_ref (T := "tuple") (U := "int") (by decide) ⟨_, ho, rfl⟩ (fun s' => typeIs_int s' 1 t) noFill_tuple_mul F.fills_int_mul F.slot_int_rmul repeat_tuple F.slot_int_index.lookup
    (call_meets F.slot_int_rmul (typeIs_int s 1 t) F.entry_int_rmul (F.args_int_rmul_2 _ _) (int_rmul_tuple 1 t l its.toArray n dd sl)
      ⟨ho, rfl, ⟨_, ho, rfl⟩, call_meets F.slot_tuple_mul ⟨_, ho, rfl⟩ F.entry_tuple_mul (F.args_tuple_mul_2 _ _) (tuple_mulW1 l its.toArray n dd sl t) ⟨ho, ?_⟩⟩)
  exact ⟨.ref l, H, I, rfl, q⟩
def rRepTA (K : PySem.W.Frag) : R2 := fun x y H Q => rRepT K x y H Q ∨ rRepT1 K x y H Q
theorem op_repTA {X : Cx} : OpR X (binaryOp .Mult) (rRepTA X.K) := op_repT.or op_repT1
@[simp] def oMulT (env : En) : List Opd → Option Opd
  | [a, b] => match a.tt env, b.rd env with
    | some u, some (.int k) => match u.elsT with
      | some xs => if xs ≠ [] ∧ 1 ≤ k ∧ k ≤ 1000 ∧ xs.length ≤ 1000 then some (.t (.z (.tup (List.replicate k.toNat xs).flatten))) else none
      | none => none
    | _, _ => none
  | _ => none
theorem link_mulT {K : PySem.W.Frag} : Link K oMulT (R2L (rRepTA K)) := by
  intro σ Z H F G env os xs o' Q ok er or ho hq
  unfold oMulT at ho
  split at ho
  · rename_i a b
    obtain ⟨x, y, A, B, rfl, ra, rb⟩ := or.two
    show rRepTA K x y H Q
    split at ho
    · rename_i u k eu ek
      have h2 := (rb.look ok.sub er ek).v_int
      subst h2
      split at ho
      · rename_i ds ed
        split at ho
        · rename_i hc
          cases ho
          obtain ⟨p, vs, rfl, hp, r1⟩ := (ra.seen er eu).elsT ed
          by_cases h1 : k = 1
          · subst h1
            refine .inr ⟨p, vs, rfl, rfl, SqT.of hp, ?_⟩
            have e1 : (List.replicate (1 : Int).toNat ds).flatten = ds := by simp
            exact hq _ H [] (fun _ _ z => z) (fun _ z => nomatch z) List.nodup_nil (.t (.z (.tup hp (by rw [e1]; exact r1))))
          · refine .inl ⟨p, k, vs, rfl, rfl, SqT.of hp, ?_, by omega, hc.2.2.1, by rw [← r1.length]; exact hc.2.2.2, fun l hn => ?_⟩
            · intro e
              subst e
              cases r1
              exact hc.1 rfl
            · exact hq _ _ [] (grow_upd hn) (fun _ z => nomatch z) (by simp) (new_tup hn (r1.rep _))
        · cases ho
      · cases ho
    · cases ho
  · cases ho
theorem pq_mulT {X : Cx} {W : WX} {a b : Expr} {pos : Pos} {p1 p2 : Bool} {fa fb : EM Opd} (ha : PQ X W p1 a fa) (hb : PQ X W p2 b fb) : PQ X W (p1 && p2) (.BinOp a .Mult b pos) (sO oMulT (sCons p2 fa (sCons true fb sNil))) := pq_bin op_repTA link_mulT ha hb
end DL

/-! DL41: f(..)[k] of a tuple that goes: its part is taken out. -/
namespace DL
open PySem PySem.Spec PyProof.Rows L2
theorem RepTs.getM {K : PySem.W.Frag} {Z H : Hp} {ts : List T} {vs : List V} {F : List Addr} (r : RepTs K Z H ts vs F) : ∀ {k : Int} {t : T}, L2.atI ts k = some t → ∃ v G, L2.atI vs k = some v ∧ RepT K Z H t v G ∧ G.Sublist F := by
  have go : ∀ {ts : List T} {vs : List V} {F : List Addr}, RepTs K Z H ts vs F → ∀ {j : Nat} {t : T}, ts[j]? = some t → ∃ v G, vs[j]? = some v ∧ RepT K Z H t v G ∧ G.Sublist F := by
    intro ts
    induction ts with
    | nil => intro vs F r j t e; simp at e
    | cons x xs ih =>
      intro vs F r j t e
      cases r with
      | cons r s =>
        cases j with
        | zero => simp at e; subst e; exact ⟨_, _, by simp, r, List.sublist_append_left _ _⟩
        | succ j => simp at e; obtain ⟨v, G, h1, h2, h3⟩ := ih s e; exact ⟨v, G, by simpa using h1, h2, h3.trans (List.sublist_append_right _ _)⟩
  intro k t e
  unfold L2.atI at e ⊢
  rw [← r.length]
  cases q : ixN ts.length k with
  | none => rw [q] at e; cases e
  | some j => rw [q] at e; exact go r e
def sIxM (k : Int) (fa : EM Opd) : EM Opd := fun env => match fa env with
  | none => none
  | some (.ex x e) => some (.ex x e)
  | some (.ok (.t (.tup ts)) e) => match L2.atI ts k with
    | some t => some (.ok (.t t) e)
    | none => none
  | some (.ok _ _) => none
@[simp] theorem sIxM_ap {k : Int} {fa : EM Opd} {env : En} : sIxM k fa env = (match fa env with
  | none => none
  | some (.ex x e) => some (.ex x e)
  | some (.ok (.t (.tup ts)) e) => match L2.atI ts k with
    | some t => some (.ok (.t t) e)
    | none => none
  | some (.ok _ _) => none) := rfl
theorem ixM_ok {K : PySem.W.Frag} {W : WX} {p : Bool} {k : Int} {fa : EM Opd} {σ : L2.St} {H : Hp} {Q : VK} (h : tQ K W false (sIxM k fa) σ H Q) : tOp (rIxT K) (tQ K W p fa) (tC (.int k)) σ H Q := by
  obtain ⟨Z, env, F, ok, er, r, hr, post⟩ := h
  unfold sIxM at hr
  split at hr
  · cases hr
  · rename_i x e hf
    cases hr
    exact ⟨Z, env, F, ok, er, _, hf, post⟩
  · rename_i ts e hf
    split at hr
    · rename_i t ht
      cases hr
      refine ⟨Z, env, F, ok, er, _, hf, fun x H1 Z1 F1 G1 x1 ok1 er1 or1 _ => ?_⟩
      cases or1 with
      | t r1 =>
        cases r1 with
        | tup hp r2 =>
          obtain ⟨v, G, hv, rv, sub⟩ := r2.getM ht
          have sb : (F1 ++ G).Sublist (F1 ++ G1) := List.Sublist.append_left sub F1
          exact ⟨_, _, k, v, rfl, rfl, SqT.of hp, hv, post v H1 Z1 F1 G (x1.trans (Ext.subF fun a ha => sb.subset ha)) (ok1.subF sb) er1 (.t rv) fun z => nomatch z⟩
    · cases hr
  · cases hr
theorem pq_ixM {X : Cx} {W : WX} {p : Bool} {a : Expr} {k : Int} {j : Nat} {p2 pos : Pos} {fa : EM Opd} (ha : PQ X W p a fa) (hs : PlainIx (.Constant (.int k) j p2) := by exact fun _ _ => rfl) :
    PQ X W false (.Subscript a (.Constant (.int k) j p2) pos) (sIxM k fa) :=
  (pe_ix ix_tup ha pe_int hs).imp fun _ _ _ h => ixM_ok h
end DL

/-! DL42: x = y where y's value goes with it. -/
namespace DL
open PySem PySem.Spec PyProof.Rows L2
def sSetM (i : Nat) (f : EM Opd) : SM := fun env => match f env with
  | none => none
  | some (.ex x e) => some (.ex x e)
  | some (.ok o e) => match o.mv e with
    | none => none
    | some (t, e') => if i < e'.length then some (.nx (e'.set i (some t))) else none
@[simp] theorem sSetM_ap {i : Nat} {f : EM Opd} {env : En} : sSetM i f env = (match f env with
  | none => none
  | some (.ex x e) => some (.ex x e)
  | some (.ok o e) => match o.mv e with
    | none => none
    | some (t, e') => if i < e'.length then some (.nx (e'.set i (some t))) else none) := rfl
section
variable {K : PySem.W.Frag} {W : WX} {P : List Nat} {D : Ends} {σ : L2.St} {H : Hp} {f : EM Opd} {i : Nat}
theorem asgM_ok (hP : i ∉ P) (q : tS K W P (sSetM i f) D σ H) : tQ K W false f σ H fun x H1 => D.nx (σ.set i (some x)) H1 := by
  obtain ⟨Z, env, F, ok, er, o, ho, post⟩ := q
  unfold sSetM at ho
  split at ho
  · cases ho
  · rename_i x e hf
    cases ho
    exact ⟨Z, env, F, ok, er, _, hf, fun d H' Z' F' a b c f => post d σ H' Z' F' a b c f Pin.refl⟩
  · rename_i o e hf
    split at ho
    · cases ho
    · rename_i t e' ht
      split at ho
      · rename_i hi
        cases ho
        refine ⟨Z, env, F, ok, er, _, hf, fun v H1 Z1 F1 G1 x1 ok1 er1 or1 _ => ?_⟩
        obtain ⟨F2, G2, x2, ok2, er2, r2⟩ := mv_ok ok1 er1 or1 ht
        obtain ⟨F3, x3, ok3, er3⟩ := er2.put ok2 r2 hi
        exact post _ H1 Z1 F3 ((x1.trans x2).trans x3) ok3 er3 (Pin.set hP)
      · cases ho
end
section
variable {X : Cx} {W : WX} {P : List Nat} {e : Expr} {pos pos' : Pos} {x : Str} {i : Nat} {p : Bool} {f : EM Opd}
theorem psq_setM (hN : X.N.Nodup) (hi : X.N[i]? = some x) (hx : Loc X.env.scope x) (he : PQ X W p e f) (hP : i ∉ P := by decide) (hs : swapsWith e (some (.Name x pos')) pos.line X.env = pure false := by rfl) (hf : X.fn x = true ∨ X.env.scope.names.lookup x = some .local := by first | exact .inl rfl | exact .inr rfl | assumption) :
    PSQ X W P (.Assign [.Name x pos'] e pos) (sSetM i f) :=
  (ps_set hN hi hx he hs hf).imp fun D σ H q => tQ_any (asgM_ok hP q)
end
end DL

namespace DL
open PySem PySem.Spec PyProof.Rows L2
/-! ### covering -/
def cov : List Int → List Int → Bool
  | a :: as, b :: bs => decide (b ≤ a) && cov as bs
  | _, _ => true
theorem cov_refl : ∀ a, cov a a = true
  | [] => rfl
  | a :: as => by simp [cov, cov_refl as]
theorem cov_trans : ∀ {a b c : List Int}, a.length = b.length → b.length = c.length → cov a b = true → cov b c = true → cov a c = true
  | [], [], [], _, _, _, _ => rfl
  | a :: as, b :: bs, c :: cs, h1, h2, h3, h4 => by
    simp only [cov, Bool.and_eq_true, decide_eq_true_eq] at h3 h4 ⊢
    exact ⟨Int.le_trans h4.1 h3.1, cov_trans (by simpa using h1) (by simpa using h2) h3.2 h4.2⟩
theorem cov_lt : ∀ {a b : List Int}, a.length = b.length → cov a b = true → b ≠ a → ltI b a = true
  | [], [], _, _, h => absurd rfl h
  | a :: as, b :: bs, h1, h3, h4 => by
    simp only [cov, Bool.and_eq_true, decide_eq_true_eq] at h3
    rw [ltI_cons]
    by_cases e : b = a
    · subst e
      exact .inr ⟨rfl, cov_lt (by simpa using h1) h3.2 fun z => h4 (by rw [z])⟩
    · exact .inl (by omega)
theorem cov_drop (a b : List Int) (k : Nat) (h : k < a.length) (h2 : k < b.length) : cov (a.drop k) (b.drop k) = (decide (b[k] ≤ a[k]) && cov (a.drop (k + 1)) (b.drop (k + 1))) := by
  rw [List.drop_eq_getElem_cons h, List.drop_eq_getElem_cons h2]
  rfl
def gCovB : SM := sIfS (sTb (sO oLt (sCons true (sO oIx (sCons true (sVar 0) (sCons true (sVar 2) sNil))) (sCons true (sO oIx (sCons true (sVar 1) (sCons true (sVar 2) sNil))) sNil))))
      (sRet (sC (.bl false)))
      sNext
noncomputable def gCov : SM := sSeq (sForR gRng1 (sCons true (sO (oS gLen) (sCons true (sVar 0) sNil)) sNil) (gmName 2) gCovB) (sRet (sC (.bl true)))
@[simp] theorem atI_ints (a : List Int) (k : Nat) (h : k < a.length) : atI (a.map D.int) (k : Int) = some (.int a[k]) := by
  rw [atI_get _ _ (by simpa using h)]
  simp
theorem covB_ev (a b : List Int) (k : Nat) (h : k < a.length) (h2 : k < b.length) : gCovB [some (.z (dT a)), some (.z (dT b)), some (iT k)] = if b[k] ≤ a[k] then some (.nx [some (.z (dT a)), some (.z (dT b)), some (iT k)]) else some (.rt (bT false) [some (.z (dT a)), some (.z (dT b)), some (iT k)]) := by
  unfold gCovB
  by_cases hc : b[k] ≤ a[k]
  · have hc' : ¬ a[k] < b[k] := by omega
    simp [h, h2, hc, hc']
  · have hc' : a[k] < b[k] := by omega
    simp [h, h2, hc, hc']
theorem cov_loop (a b : List Int) (hl : a.length = b.length) : ∀ (n k : Nat) (o : Option T), k + n = a.length →
    ∃ e o', forF (gmName 2) gCovB (rngD k n) [some (.z (dT a)), some (.z (dT b)), o] = if cov (a.drop k) (b.drop k) = true then some (.nx [some (.z (dT a)), some (.z (dT b)), o']) else some (.rt (bT false) e)
  | 0, k, o, h => by
    have e1 : a.drop k = [] := List.drop_eq_nil_of_le (by omega)
    refine ⟨[], o, ?_⟩
    rw [e1]
    simp [rngD, forF, cov]
  | n + 1, k, o, h => by
    have hk : k < a.length := by omega
    have hk2 : k < b.length := by omega
    obtain ⟨e, o', ih⟩ := cov_loop a b hl n (k + 1) (some (iT k)) (by omega)
    have st : forF (gmName 2) gCovB (rngD k (n + 1)) [some (.z (dT a)), some (.z (dT b)), o] = (match gCovB [some (.z (dT a)), some (.z (dT b)), some (iT k)] with
      | some (.nx e) => forF (gmName 2) gCovB (rngD ((k : Int) + 1) n) e
      | some (.ct e) => forF (gmName 2) gCovB (rngD ((k : Int) + 1) n) e
      | some (.bk e) => some (.nx e)
      | o => o) := rfl
    rw [st, covB_ev a b k hk hk2, cov_drop a b k hk hk2]
    by_cases hc : b[k] ≤ a[k]
    · refine ⟨e, o', ?_⟩
      rw [if_pos hc]
      have : decide (b[k] ≤ a[k]) = true := decide_eq_true hc
      rw [this, Bool.true_and]
      exact ih
    · refine ⟨[some (.z (dT a)), some (.z (dT b)), some (iT k)], o', ?_⟩
      rw [if_neg hc]
      have : decide (b[k] ≤ a[k]) = false := decide_eq_false hc
      rw [this, Bool.false_and]
      rfl
theorem cov_ev (a b : List Int) (hl : a.length = b.length) (h : a.length < 1000000) : fnOf 2 3 [] gCov [.z (dT a), .z (dT b)] = some (.rt (bT (cov a b)) []) := by
  obtain ⟨e, o', ih⟩ := cov_loop a b hl a.length 0 none (by omega)
  have e1 : (sForR gRng1 (sCons true (sO (oS gLen) (sCons true (sVar 0) sNil)) sNil) (gmName 2) gCovB) [some (.z (dT a)), some (.z (dT b)), none] = if cov a b = true then some (.nx [some (.z (dT a)), some (.z (dT b)), o']) else some (.rt (bT false) e) := by
    rw [forR1_ev (n := a.length) (by simp) h]
    exact ih
  cases hc : cov a b
  · rw [hc] at e1
    exact fn_rt rfl (sSeq_rt e1)
  · rw [hc] at e1
    exact fn_rt rfl (sSeq_nx e1)
/-! ### inside -/
def ins (ms : List (List Int)) (x : List Int) : Bool := ms.any fun m => cov x m
abbrev LT (ms : List (List Int)) : D := .lst (ms.map dT)
noncomputable def gInsB (F : FSem) : SM := sIfS (sTr (sCallL 2 F (sCons true (sVar 1) (sCons true (sVar 2) sNil)))) (sRet (sC (.bl true))) sNext
noncomputable def gIns (F : FSem) : SM := sSeq (sForN 0 (gmName 2) (gInsB F)) (sRet (sC (.bl false)))
theorem insB_ev (d : D) (x m : List Int) (hl : x.length = m.length) (h : x.length < 1000000) : gInsB (fnOf 2 3 [] gCov) [some (.z d), some (.z (dT x)), some (.z (dT m))] = if cov x m = true then some (.rt (bT true) [some (.z d), some (.z (dT x)), some (.z (dT m))]) else some (.nx [some (.z d), some (.z (dT x)), some (.z (dT m))]) := by
  unfold gInsB
  have hF := cov_ev x m hl h
  cases hc : cov x m <;> rw [hc] at hF <;> simp [hF]
theorem ins_loop (d : D) (x : List Int) (hx : x.length < 1000000) : ∀ (ms : List (List Int)) (o : Option T), (∀ m ∈ ms, x.length = m.length) →
    ∃ e, forF (gmName 2) (gInsB (fnOf 2 3 [] gCov)) (ms.map dT) [some (.z d), some (.z (dT x)), o] = if ins ms x = true then some (.rt (bT true) e) else some (.nx e)
  | [], o, h => ⟨_, rfl⟩
  | m :: ms, o, h => by
    have st : forF (gmName 2) (gInsB (fnOf 2 3 [] gCov)) ((m :: ms).map dT) [some (.z d), some (.z (dT x)), o] = (match gInsB (fnOf 2 3 [] gCov) [some (.z d), some (.z (dT x)), some (.z (dT m))] with
      | some (.nx e) => forF (gmName 2) (gInsB (fnOf 2 3 [] gCov)) (ms.map dT) e
      | some (.ct e) => forF (gmName 2) (gInsB (fnOf 2 3 [] gCov)) (ms.map dT) e
      | some (.bk e) => some (.nx e)
      | o => o) := rfl
    rw [st, insB_ev d x m (h m List.mem_cons_self) hx]
    have e2 : ins (m :: ms) x = (cov x m || ins ms x) := rfl
    rw [e2]
    cases hc : cov x m
    · obtain ⟨e, ih⟩ := ins_loop d x hx ms (some (.z (dT m))) fun z hz => h z (List.mem_cons_of_mem _ hz)
      exact ⟨e, ih⟩
    · exact ⟨_, rfl⟩
theorem ins_ev (ms : List (List Int)) (x : List Int) (h : ∀ m ∈ ms, x.length = m.length) (hx : x.length < 1000000) : fnOf 2 3 [] (gIns (fnOf 2 3 [] gCov)) [.z (LT ms), .z (dT x)] = some (.rt (bT (ins ms x)) []) := by
  obtain ⟨e, ih⟩ := ins_loop (LT ms) x hx ms none h
  have e1 : (sForN 0 (gmName 2) (gInsB (fnOf 2 3 [] gCov))) [some (.z (LT ms)), some (.z (dT x)), none] = if ins ms x = true then some (.rt (bT true) e) else some (.nx e) := ih
  cases hc : ins ms x
  · rw [hc] at e1
    exact fn_rt rfl (sSeq_nx e1)
  · rw [hc] at e1
    exact fn_rt rfl (sSeq_rt e1)
end DL

namespace DL
open PySem PySem.Spec PyProof.Rows L2
/-! ### numbers -/
noncomputable def gIsInt : SM := sRet (sAndV (sO (oS (gIsi "int")) (sCons true (sVar 0) sNil)) (sO (oS gNot) (sCons true (sO (oS (gIsi "bool")) (sCons true (sVar 0) sNil)) sNil)))
theorem isInt_ev (i : Int) : fnOf 1 1 [] gIsInt [iT i] = some (.rt (bT true) []) := by
  refine fn_rt (e := [some (iT i)]) rfl ?_
  unfold gIsInt
  simp
noncomputable def gNumB (F : FSem) : SM := sIfS (sOr (sNot (sTr (sCallL 1 F (sCons true (sVar 3) sNil)))) (sTb (sO oLt (sCons true (sVar 3) (sCons true (sVar 2) sNil))))) (sRet (sC (.bl false))) sNext
noncomputable def gNum (F : FSem) : SM :=
  (sSeq (sIfS (sOr (sNot (sTr (sO (oS (gIsi "tuple")) (sCons true (sVar 0) sNil)))) (sTb (sO (oS gNe) (sCons true (sO (oS gLen) (sCons true (sVar 0) sNil)) (sCons true (sVar 1) sNil)))))
    (sRet (sC (.bl false)))
    sNext)
  (sSeq (sForN 0 (gmName 3) (gNumB F))
  (sRet (sC (.bl true)))))
theorem num_ev (a : List Int) (n : Nat) (low : Int) (hl : a.length = n) (hb : ∀ x ∈ a, low ≤ x) : fnOf 3 4 [] (gNum (fnOf 1 1 [] gIsInt)) [.z (dT a), iT n, iT low] = some (.rt (bT true) []) := by
  obtain ⟨e, h1, h2⟩ := forF_all (s := gmName 3) (g := gNumB (fnOf 1 1 [] gIsInt)) (ds := a.map D.int) (fun e => ∃ o, e = [some (.z (dT a)), some (iT n), some (iT low), o]) (env := [some (.z (dT a)), some (iT n), some (iT low), none]) ⟨_, rfl⟩ fun d hd env i => by
    obtain ⟨o, rfl⟩ := i
    obtain ⟨x, hx, rfl⟩ := List.mem_map.mp hd
    have hF := isInt_ev x
    have hx' : ¬ x < low := by have := hb x hx; omega
    refine ⟨[some (.z (dT a)), some (iT n), some (iT low), some (iT x)], [some (.z (dT a)), some (iT n), some (iT low), some (iT x)], rfl, .inl ?_, some (iT x), rfl⟩
    unfold gNumB
    simp [hF, hx']
  obtain ⟨o, rfl⟩ := h2
  refine fn_rt (e := [some (.z (dT a)), some (iT n), some (iT low), o]) rfl ?_
  have e1 : (sIfS (sOr (sNot (sTr (sO (oS (gIsi "tuple")) (sCons true (sVar 0) sNil)))) (sTb (sO (oS gNe) (sCons true (sO (oS gLen) (sCons true (sVar 0) sNil)) (sCons true (sVar 1) sNil)))))
    (sRet (sC (.bl false)))
    sNext) [some (.z (dT a)), some (iT n), some (iT low), none] = some (.nx [some (.z (dT a)), some (iT n), some (iT low), none]) := by
    simp [hl]
  have e2 : (sForN 0 (gmName 3) (gNumB (fnOf 1 1 [] gIsInt))) [some (.z (dT a)), some (iT n), some (iT low), none] = some (.nx [some (.z (dT a)), some (iT n), some (iT low), o]) := h1
  exact (sSeq_nx e1).trans ((sSeq_nx e2).trans rfl)
noncomputable def gAllB (F : FSem) : SM := sIfS (sNot (sTr (sCallL 3 F (sCons true (sVar 3) (sCons true (sVar 1) (sCons true (sVar 2) sNil)))))) (sRet (sC (.bl false))) sNext
noncomputable def gAll (F : FSem) : SM :=
  (sSeq (sIfS (sNot (sTr (sO (oS (gIsi "list")) (sCons true (sVar 0) sNil)))) (sRet (sC (.bl false))) sNext)
  (sSeq (sForN 0 (gmName 3) (gAllB F))
  (sRet (sC (.bl true)))))
noncomputable abbrev FNum : FSem := fnOf 3 4 [] (gNum (fnOf 1 1 [] gIsInt))
theorem all_ev (ms : List (List Int)) (n : Nat) (low : Int) (hl : ∀ m ∈ ms, m.length = n ∧ ∀ x ∈ m, low ≤ x) : fnOf 3 4 [] (gAll FNum) [.z (LT ms), iT n, iT low] = some (.rt (bT true) []) := by
  obtain ⟨e, h1, h2⟩ := forF_all (s := gmName 3) (g := gAllB FNum) (ds := ms.map dT) (fun e => ∃ o, e = [some (.z (LT ms)), some (iT n), some (iT low), o]) (env := [some (.z (LT ms)), some (iT n), some (iT low), none]) ⟨_, rfl⟩ fun d hd env i => by
    obtain ⟨o, rfl⟩ := i
    obtain ⟨x, hx, rfl⟩ := List.mem_map.mp hd
    have hF := num_ev x n low (hl x hx).1 (hl x hx).2
    refine ⟨[some (.z (LT ms)), some (iT n), some (iT low), some (.z (dT x))], [some (.z (LT ms)), some (iT n), some (iT low), some (.z (dT x))], rfl, .inl ?_, some (.z (dT x)), rfl⟩
    unfold gAllB
    simp [hF]
  obtain ⟨o, rfl⟩ := h2
  refine fn_rt (e := [some (.z (LT ms)), some (iT n), some (iT low), o]) rfl ?_
  have e1 : (sIfS (sNot (sTr (sO (oS (gIsi "list")) (sCons true (sVar 0) sNil)))) (sRet (sC (.bl false))) sNext) [some (.z (LT ms)), some (iT n), some (iT low), none] = some (.nx [some (.z (LT ms)), some (iT n), some (iT low), none]) := by
    simp
  have e2 : (sForN 0 (gmName 3) (gAllB FNum)) [some (.z (LT ms)), some (iT n), some (iT low), none] = some (.nx [some (.z (LT ms)), some (iT n), some (iT low), o]) := h1
  exact (sSeq_nx e1).trans ((sSeq_nx e2).trans rfl)
/-! ### markings drawn -/
noncomputable abbrev FTake : FSem := fnOf 2 2 [true] gTake
noncomputable def gMark (F : FSem) : SM :=
  (sRet (sO oTupOf (sCons true (sLcR [3] gRng1 (sCons true (sVar 1) sNil) (gmName 3) sYes (sCallT 2 [true] F (sCons true (sVar 0) (sCons true (sO oAdd (sCons true (sVar 2) (sCons true (sC (.int 1)) sNil))) sNil)))) sNil)))
/-- draws of ints between 0 and most -/
def Drawn (most : Int) (v : List Int) : Prop := ∀ x ∈ v, 0 ≤ x ∧ x ≤ most
theorem mark_comp (n : Nat) (most : Int) (hm : 0 ≤ most) (hn : n < 10000) (xs : List Int) : ∃ (vs xs' : List Int), compF [3] (gmName 3) sYes (sCallT 2 [true] FTake (sCons true (sVar 0) (sCons true (sO oAdd (sCons true (sVar 2) (sCons true (sC (.int 1)) sNil))) sNil))) (rngD 0 n) [some (.lst (xs.map iT)), some (iT n), some (iT most), none] [] = some (vs.map iT, [some (.lst (xs'.map iT)), some (iT n), some (iT most), none]) ∧ vs.length = n ∧ Drawn most vs := by
  obtain ⟨ts, e, h1, vs, xs', rfl, rfl, h2, h3⟩ := compF_inv (own := [3]) (s := gmName 3) (fc := sYes) (fe := sCallT 2 [true] FTake (sCons true (sVar 0) (sCons true (sO oAdd (sCons true (sVar 2) (sCons true (sC (.int 1)) sNil))) sNil)))
    (fun p acc env => ∃ vs xs' : List Int, acc = vs.map iT ∧ env = [some (.lst (xs'.map iT)), some (iT n), some (iT most), none] ∧ vs.length = p.length ∧ Drawn most vs) (ds := rngD 0 n) (env := [some (.lst (xs.map iT)), some (iT n), some (iT most), none]) (by rw [rngD_length]; exact hn) ⟨[], xs, rfl, rfl, rfl, fun _ h => nomatch h⟩ fun p d q acc env _ _ i => by
      obtain ⟨vs, xs', rfl, rfl, hl, hd⟩ := i
      have hF := take_ev xs' (most + 1) (by omega)
      have hb := dtake_bd xs' (n := most + 1) (by omega)
      refine ⟨[some (.lst (xs'.map iT)), some (iT n), some (iT most), some (.z d)], rfl, .inl ⟨_, .t (iT (dtake xs' (most + 1)).1), [some (.lst ((dtake xs' (most + 1)).2.map iT)), some (iT n), some (iT most), some (.z d)], iT (dtake xs' (most + 1)).1, _, rfl, ?_, rfl, vs ++ [(dtake xs' (most + 1)).1], (dtake xs' (most + 1)).2, by simp, rfl, by simp [hl], ?_⟩⟩
      · simp [hF, FTake]
      · intro x hx
        rcases List.mem_append.mp hx with z | z
        · exact hd x z
        · rw [List.mem_singleton.mp z]; omega
  exact ⟨vs, xs', h1, by rw [h2, rngD_length], h3⟩
theorem mark_ev (n : Nat) (most : Int) (hm : 0 ≤ most) (hn : n < 10000) (xs : List Int) : ∃ (vs xs' : List Int), fnOf 3 4 [true] (gMark FTake) [.lst (xs.map iT), iT n, iT most] = some (.rt (.z (dT vs)) [.lst (xs'.map iT)]) ∧ vs.length = n ∧ Drawn most vs := by
  obtain ⟨vs, xs', h1, h2, h3⟩ := mark_comp n most hm hn xs
  refine ⟨vs, xs', fn_io (e := [some (.lst (xs'.map iT)), some (iT n), some (iT most), none]) rfl ?_ rfl, h2, h3⟩
  unfold gMark
  have hg := gRng1_ev n (by omega)
  simp [-gRng1, hg, h1]
noncomputable def gMarks (F : FSem) : SM :=
  (sRet (sLcR [4] gRng1 (sCons true (sVar 2) sNil) (gmName 4) sYes (sCallT 3 [true] F (sCons true (sVar 0) (sCons true (sVar 1) (sCons true (sVar 3) sNil))))))
noncomputable abbrev FMark : FSem := fnOf 3 4 [true] (gMark FTake)
theorem marks_ev (n k : Nat) (most : Int) (hm : 0 ≤ most) (hn : n < 10000) (hk : k < 10000) (xs : List Int) : ∃ (vs : List (List Int)) (xs' : List Int), fnOf 4 5 [true] (gMarks FMark) [.lst (xs.map iT), iT n, iT k, iT most] = some (.rt (.lst (vs.map fun v => .z (dT v))) [.lst (xs'.map iT)]) ∧ vs.length = k ∧ ∀ v ∈ vs, v.length = n ∧ Drawn most v := by
  obtain ⟨ts, e, h1, vs, xs', rfl, rfl, h2, h3⟩ := compF_inv (own := [4]) (s := gmName 4) (fc := sYes) (fe := (sCallT 3 [true] FMark (sCons true (sVar 0) (sCons true (sVar 1) (sCons true (sVar 3) sNil)))))
    (fun p acc env => ∃ (vs : List (List Int)) (xs' : List Int), acc = vs.map (fun v => T.z (dT v)) ∧ env = [some (.lst (xs'.map iT)), some (iT n), some (iT k), some (iT most), none] ∧ vs.length = p.length ∧ ∀ v ∈ vs, v.length = n ∧ Drawn most v) (ds := rngD 0 k) (env := [some (.lst (xs.map iT)), some (iT n), some (iT k), some (iT most), none]) (by rw [rngD_length]; exact hk) ⟨[], xs, rfl, rfl, rfl, fun _ h => nomatch h⟩ fun p d q acc env _ _ i => by
      obtain ⟨vs, xs', rfl, rfl, hl, hd⟩ := i
      obtain ⟨v, ys, hF, b1, b2⟩ := mark_ev n most hm hn xs'
      refine ⟨[some (.lst (xs'.map iT)), some (iT n), some (iT k), some (iT most), some (.z d)], rfl, .inl ⟨_, .t (.z (dT v)), [some (.lst (ys.map iT)), some (iT n), some (iT k), some (iT most), some (.z d)], .z (dT v), _, rfl, ?_, rfl, vs ++ [v], ys, by simp, rfl, by simp [hl], ?_⟩⟩
      · simp [hF, FMark]
      · intro x hx
        rcases List.mem_append.mp hx with z | z
        · exact hd x z
        · rw [List.mem_singleton.mp z]; exact ⟨b1, b2⟩
  refine ⟨vs, xs', fn_io (e := [some (.lst (xs'.map iT)), some (iT n), some (iT k), some (iT most), none]) rfl ?_ rfl, by rw [h2, rngD_length], h3⟩
  unfold gMarks
  have hg := gRng1_ev k (by omega)
  simp [-gRng1, hg, h1]
end DL

namespace DL
open PySem PySem.Spec PyProof.Rows L2
noncomputable abbrev FCov : FSem := fnOf 2 3 [] gCov
noncomputable abbrev FIns : FSem := fnOf 2 3 [] (gIns FCov)
/-! ### raised -/
def gRaiseB : EM Opd := sO oTupOf (sCons true (sLcN [3] 2 (gmName 3) sYes (sO oAdd (sCons true (sVar 1) (sCons true (sVar 3) sNil)))) sNil)
def gRaise : SM := (sRet (sLcN [2] 0 (gmName 2) sYes gRaiseB))
theorem raiseB_ev (d : D) (b : Int) (v : List Int) (hv : v.length < 10000) : gRaiseB [some (.z d), some (iT b), some (.z (dT v)), none] = some (.ok (.t (.z (dT (v.map (b + ·))))) [some (.z d), some (iT b), some (.z (dT v)), none]) := by
  have h := compF_map (own := [3]) (s := gmName 3) (fe := sO oAdd (sCons true (sVar 1) (sCons true (sVar 3) sNil))) D.int (fun x => iT (b + x)) (env := [some (.z d), some (iT b), some (.z (dT v)), none]) v hv fun x _ => ⟨[some (.z d), some (iT b), some (.z (dT v)), some (iT x)], .t (iT (b + x)), [some (.z d), some (iT b), some (.z (dT v)), some (iT x)], [some (.z d), some (iT b), some (.z (dT v)), some (iT x)], rfl, rfl, rfl, rfl⟩
  unfold gRaiseB
  simp [h]
theorem raise_ev (vs : List (List Int)) (b : Int) (hs : vs.length < 10000) (hv : ∀ v ∈ vs, v.length < 10000) : fnOf 2 4 [] gRaise [.z (LT vs), iT b] = some (.rt (.lst ((vs.map fun v => v.map (b + ·)).map fun v => .z (dT v))) []) := by
  have h := compF_map (own := [2]) (s := gmName 2) (fe := gRaiseB) dT (fun v => T.z (dT (v.map (b + ·)))) (env := [some (.z (LT vs)), some (iT b), none, none]) vs hs fun x hx => ⟨[some (.z (LT vs)), some (iT b), some (.z (dT x)), none], .t (.z (dT (x.map (b + ·)))), [some (.z (LT vs)), some (iT b), some (.z (dT x)), none], [some (.z (LT vs)), some (iT b), some (.z (dT x)), none], rfl, raiseB_ev _ b x (hv x hx), rfl, rfl⟩
  refine fn_rt (e := [some (.z (LT vs)), some (iT b), none, none]) rfl ?_
  unfold gRaise
  have e : sLcN [2] 0 (gmName 2) sYes gRaiseB [some (.z (LT vs)), some (iT b), none, none] = some (.ok (.t (.lst (vs.map fun v => T.z (dT (v.map (b + ·)))))) [some (.z (LT vs)), some (iT b), none, none]) := by
    rw [sLcN_ap]
    simp only [List.getElem?_cons_zero, T.els, T.elsL, wipeE]
    have : ([some (.z (LT vs)), some (iT b), none, none] : En).set 2 none = [some (.z (LT vs)), some (iT b), none, none] := rfl
    rw [this, h]
  have e2 : sRet (sLcN [2] 0 (gmName 2) sYes gRaiseB) [some (.z (LT vs)), some (iT b), none, none] = some (.rt (.lst ((vs.map fun v => v.map (b + ·)).map fun v => .z (dT v))) [some (.z (LT vs)), some (iT b), none, none]) := by
    rw [sRet_ap, e, List.map_map]
    rfl
  exact e2
/-! ### least -/
def minl (ms : List (List Int)) (m : List Int) : Bool := ms.all fun o => !(decide (o ≠ m) && cov m o)
def leastL (ms : List (List Int)) : List (List Int) := (sortU ms).filter (minl ms)
noncomputable def gLeastC (F : FSem) : EM Bool := (sAnd (sTb (sO (oS gNe) (sCons true (sVar 4) (sCons true (sVar 2) sNil)))) (sTr (sCallL 2 F (sCons true (sVar 2) (sCons true (sVar 4) sNil)))))
noncomputable def gLeastB (F : FSem) : SM := (sSeq (sSet 3 (sLcN [4] 0 (gmName 4) (gLeastC F) (sVar 4)))
    (sIfS (sTb (sO (oS gEq) (sCons true (sO (oS gLen) (sCons true (sVar 3) sNil)) (sCons true (sC (.int 0)) sNil))))
      (sApp 1 (sVar 2))
      sNext))
noncomputable def gLeast (F : FSem) : SM :=
  (sSeq (sSet 1 (sTake hLst sNil))
  (sSeq (sFor (sO oSortSet (sCons true (sVar 0) sNil)) (gmName 2) (gLeastB F))
  (sRet (sVar 1))))
theorem leastC_ev (s0 s1 s3 : Option T) (m o : List Int) (hl : m.length = o.length) (h : m.length < 1000000) : gLeastC FCov [s0, s1, some (.z (dT m)), s3, some (.z (dT o))] = some (.ok (decide (o ≠ m) && cov m o) [s0, s1, some (.z (dT m)), s3, some (.z (dT o))]) := by
  have hF : FCov _ = _ := cov_ev m o hl h
  unfold gLeastC
  by_cases e : o = m
  · simp [e]
  · simp [e, hF]
theorem leastF_ev (s0 s1 s3 : Option T) (m : List Int) (h : m.length < 1000000) (ms : List (List Int)) (hl : ∀ o ∈ ms, m.length = o.length) (hs : ms.length < 10000) :
    compF [4] (gmName 4) (gLeastC FCov) (sVar 4) (ms.map dT) [s0, s1, some (.z (dT m)), s3, none] [] = some ((ms.filter fun o => decide (o ≠ m) && cov m o).map (fun v => .z (dT v)), [s0, s1, some (.z (dT m)), s3, none]) := by
  have go : ∀ (ms : List (List Int)) (acc : List T), acc.length + ms.length < 10000 → (∀ o ∈ ms, m.length = o.length) → compF [4] (gmName 4) (gLeastC FCov) (sVar 4) (ms.map dT) [s0, s1, some (.z (dT m)), s3, none] acc = some (acc ++ (ms.filter fun o => decide (o ≠ m) && cov m o).map (fun v => .z (dT v)), [s0, s1, some (.z (dT m)), s3, none]) := by
    intro ms
    induction ms with
    | nil => intro acc _ _; simp [compF]
    | cons o ms ih =>
      intro acc hs hl
      have hlen : acc.length < sizeLine := by
        have := sizeLine_val
        simp at hs
        omega
      have hc := leastC_ev s0 s1 s3 m o (hl o List.mem_cons_self) h
      have hg : gmName 4 (.z (dT o)) [s0, s1, some (.z (dT m)), s3, none] = some [s0, s1, some (.z (dT m)), s3, some (.z (dT o))] := rfl
      rw [List.map_cons]
      unfold compF
      simp only [hg, hc]
      cases hq : (decide (o ≠ m) && cov m o)
      · have := ih acc (by simp at hs; omega) fun z hz => hl z (List.mem_cons_of_mem _ hz)
        simp only [List.filter_cons, hq]
        exact this
      · have := ih (acc ++ [.z (dT o)]) (by simp at hs ⊢; omega) fun z hz => hl z (List.mem_cons_of_mem _ hz)
        have hv : sVar 4 [s0, s1, some (.z (dT m)), s3, some (.z (dT o))] = some (.ok (.t (.z (dT o))) [s0, s1, some (.z (dT m)), s3, some (.z (dT o))]) := rfl
        simp only [List.filter_cons, hq, hv, Opd.take, if_pos hlen]
        refine Eq.trans this ?_
        simp
  simpa using go ms [] (by simpa using hs) hl
theorem leastB_ev (ms fs : List (List Int)) (m : List Int) (s3 : Option T) (h : m.length < 1000000) (hl : ∀ o ∈ ms, m.length = o.length) (hs : ms.length < 10000) (hf : fs.length < 10000) :
    ∃ s3', gLeastB FCov [some (.z (LT ms)), some (.lst (fs.map fun v => .z (dT v))), some (.z (dT m)), s3, none] = some (.nx [some (.z (LT ms)), some (.lst ((if minl ms m = true then fs ++ [m] else fs).map fun v => .z (dT v))), some (.z (dT m)), s3', none]) := by
  have e := leastF_ev (some (.z (LT ms))) (some (.lst (fs.map fun v => .z (dT v)))) s3 m h ms hl hs
  have hlen : fs.length < sizeLine := Nat.lt_trans hf sizeLine_val
  obtain ⟨sm, hsm⟩ : ∃ sm, (ms.filter fun o => decide (o ≠ m) && cov m o) = sm := ⟨_, rfl⟩
  rw [hsm] at e
  have hmin : minl ms m = sm.isEmpty := by
    rw [← hsm]
    unfold minl
    rw [Bool.eq_iff_iff]
    simp
    exact ⟨fun h a ha hn => (h a ha).resolve_left hn, fun h x hx => (Classical.em (x = m)).imp id (h x hx)⟩
  have e1 : sSet 3 (sLcN [4] 0 (gmName 4) (gLeastC FCov) (sVar 4)) [some (.z (LT ms)), some (.lst (fs.map fun v => .z (dT v))), some (.z (dT m)), s3, none] = some (.nx [some (.z (LT ms)), some (.lst (fs.map fun v => .z (dT v))), some (.z (dT m)), some (.lst (sm.map fun v => .z (dT v))), none]) := by
    have : sLcN [4] 0 (gmName 4) (gLeastC FCov) (sVar 4) [some (.z (LT ms)), some (.lst (fs.map fun v => .z (dT v))), some (.z (dT m)), s3, none] = some (.ok (.t (.lst (sm.map fun v => .z (dT v)))) [some (.z (LT ms)), some (.lst (fs.map fun v => .z (dT v))), some (.z (dT m)), s3, none]) := by
      rw [sLcN_ap]
      simp only [List.getElem?_cons_zero, T.els, T.elsL, wipeE]
      have : ([some (.z (LT ms)), some (.lst (fs.map fun v => .z (dT v))), some (.z (dT m)), s3, none] : En).set 4 none = [some (.z (LT ms)), some (.lst (fs.map fun v => .z (dT v))), some (.z (dT m)), s3, none] := rfl
      rw [this, e]
    rw [sSet_ap, this]
    rfl
  refine ⟨some (.lst (sm.map fun v => .z (dT v))), ?_⟩
  unfold gLeastB
  rw [sSeq_nx e1, hmin]
  cases sm with
  | nil => simp [hlen]
  | cons x xs =>
    have : ¬ ((xs.length : Int) + 1 = 0) := by omega
    simp [this]
theorem dInts_ev (v : List Int) : dInts (v.map D.int) = some v := by
  induction v with
  | nil => rfl
  | cons x xs ih => simp [dInts, ih]
theorem intTups_ev (ms : List (List Int)) : intTups (ms.map dT) = some ms := by
  induction ms with
  | nil => rfl
  | cons x xs ih => simp [intTups, ih, dInts_ev]
theorem oSortSet_ev (env : En) (ms : List (List Int)) (o : Opd) (u : T) (ho : o.tt env = some u) (hu : u.elsL = some (ms.map dT)) (h1 : ms.length < 64) (h2 : ∀ m ∈ ms, m ≠ []) : oSortSet env [o] = some (.t (.lst ((sortU ms).map fun v => .z (dT v)))) := by
  unfold oSortSet
  simp only [ho, hu, intTups_ev, if_pos (And.intro h1 h2)]
theorem insU_len (x : List Int) : ∀ l : List (List Int), (insU x l).length ≤ l.length + 1
  | [] => by simp [insU]
  | y :: ys => by
    have := insU_len x ys
    unfold insU
    split <;> (try split) <;> simp <;> omega
theorem sortU_len (l : List (List Int)) : (sortU l).length ≤ l.length := by
  induction l with
  | nil => simp [sortU]
  | cons x xs ih =>
    have := insU_len x (sortU xs)
    show (insU x (sortU xs)).length ≤ _
    simp
    omega
theorem least_ev (ms : List (List Int)) (n : Nat) (hn : n < 1000000) (h0 : 0 < n) (hl : ∀ m ∈ ms, m.length = n) (hs : ms.length < 64) : fnOf 1 5 [] (gLeast FCov) [.z (LT ms)] = some (.rt (.lst ((leastL ms).map fun v => .z (dT v))) []) := by
  have hne : ∀ m ∈ ms, m ≠ [] := fun m hm z => by have := hl m hm; rw [z] at this; simp at this; omega
  obtain ⟨e, h1, s2, s3, h2⟩ := forF_inv (s := gmName 2) (g := gLeastB FCov) (ds := (sortU ms).map dT) (fun p e => ∃ s2 s3, e = [some (.z (LT ms)), some (.lst ((((sortU ms).take p.length).filter (minl ms)).map fun v => .z (dT v))), s2, s3, none]) (env := [some (.z (LT ms)), some (.lst []), none, none, none]) ⟨none, none, rfl⟩ fun p d q env hx i => by
    obtain ⟨s2, s3, rfl⟩ := i
    have hlt : p.length < (sortU ms).length := by
      have := congrArg List.length hx
      simp at this
      omega
    have hd : d = dT (sortU ms)[p.length] := by
      have := congrArg (fun l => l[p.length]?) hx
      simpa [hlt] using this.symm
    obtain ⟨m, hm⟩ : ∃ m, (sortU ms)[p.length] = m := ⟨_, rfl⟩
    have hmm : m ∈ ms := mem_sortU.mp (by rw [← hm]; exact List.getElem_mem hlt)
    rw [hm] at hd
    subst hd
    obtain ⟨s3', hb⟩ := leastB_ev ms (((sortU ms).take p.length).filter (minl ms)) m s3 (by rw [hl m hmm]; exact hn) (fun o ho => by rw [hl m hmm, hl o ho]) (by omega) (Nat.lt_of_le_of_lt (Nat.le_trans (List.length_filter_le _ _) (Nat.le_trans (List.length_take_le' _ _) (sortU_len ms))) (by omega))
    refine ⟨_, _, rfl, .inl hb, some (.z (dT m)), s3', ?_⟩
    have : (sortU ms).take (p ++ [dT m]).length = (sortU ms).take p.length ++ [m] := by
      rw [List.length_append, List.length_singleton, List.take_add_one, List.getElem?_eq_getElem hlt, hm]
      rfl
    rw [this, List.filter_append]
    cases hq : minl ms m <;> simp [hq]
  rw [List.length_map, List.take_length] at h2
  subst h2
  refine fn_rt (e := [some (.z (LT ms)), none, s2, s3, none]) rfl ?_
  have e1 : (sSet 1 (sTake hLst sNil)) [some (.z (LT ms)), none, none, none, none] = some (.nx [some (.z (LT ms)), some (.lst []), none, none, none]) := by simp
  have e2 : (sFor (sO oSortSet (sCons true (sVar 0) sNil)) (gmName 2) (gLeastB FCov)) [some (.z (LT ms)), some (.lst []), none, none, none] = some (.nx [some (.z (LT ms)), some (.lst (((sortU ms).filter (minl ms)).map fun v => .z (dT v))), s2, s3, none]) := by
    have hS := oSortSet_ev [some (.z (LT ms)), some (.lst []), none, none, none] ms (.t (.z (LT ms))) (.z (LT ms)) rfl rfl hs hne
    rw [sFor_ap]
    simp only [sO_ap, sCons_ap, sVar_ap, List.getElem?_cons_zero, sNil_ap, Bool.true_or, if_true, hS, T.els, T.elsL, zs_mapz]
    exact h1
  exact (sSeq_nx e1).trans ((sSeq_nx e2).trans rfl)
end DL

namespace DL
open PySem PySem.Spec PyProof.Rows L2
/-! ### basis_of -/
def basStep (fs : List (List Int)) (m : List Int) : List (List Int) := if (fs.all fun o => !cov m o) = true then fs ++ [m] else fs
def basL (ms : List (List Int)) : List (List Int) := (sortU ms).foldl basStep []
theorem basStep_len (fs : List (List Int)) (m : List Int) : (basStep fs m).length ≤ fs.length + 1 := by
  unfold basStep
  split <;> simp
/-- folding step, on a sorted list, is the filter by minl -/
theorem bas_fold (ms : List (List Int)) (n : Nat) (hl : ∀ m ∈ ms, m.length = n) : ∀ (q p : List (List Int)), sortU ms = p ++ q → ∀ fs : List (List Int), (∀ o ∈ p, ∃ f ∈ fs, cov o f = true) → (∀ f ∈ fs, f ∈ p) → q.foldl basStep fs = fs ++ q.filter (minl ms)
  | [], p, _, fs, _, _ => by simp
  | m :: q, p, hp, fs, hA, hB => by
    have hs := sorted_sortU ms
    rw [hp] at hs
    have hmem : ∀ z, z ∈ ms ↔ z ∈ p ++ m :: q := fun z => by rw [← hp]; exact mem_sortU.symm
    have hm : m ∈ ms := (hmem m).mpr (by simp)
    have hbefore : ∀ z ∈ p, ltI z m = true := fun z hz => (List.pairwise_append.mp hs).2.2 z hz m List.mem_cons_self
    have hafter : ∀ z ∈ q, ltI m z = true := fun z hz => (List.pairwise_cons.mp (List.pairwise_append.mp hs).2.1).1 z hz
    have lenp : ∀ z ∈ p, z.length = n := fun z hz => hl z ((hmem z).mpr (by simp [hz]))
    have key : (fs.all fun o => !cov m o) = minl ms m := by
      rw [Bool.eq_iff_iff]
      unfold minl
      simp only [List.all_eq_true, Bool.not_eq_true', Bool.and_eq_false_iff, decide_eq_false_iff_not, Classical.not_not]
      constructor
      · intro h o ho
        by_cases e : o = m
        · exact .inl e
        · refine .inr ?_
          cases hc : cov m o
          · rfl
          · have lt : ltI o m = true := cov_lt (by rw [hl m hm, hl o ho]) hc e
            have hop : o ∈ p := by
              rcases List.mem_append.mp ((hmem o).mp ho) with z | z
              · exact z
              · rcases List.mem_cons.mp z with z | z
                · exact absurd z e
                · have := ltI_trans lt (hafter o z)
                  rw [ltI_irrefl] at this
                  cases this
            obtain ⟨f, hf, hcf⟩ := hA o hop
            have h1 := h f hf
            have h2 := cov_trans (by rw [hl m hm, hl o ho]) (by rw [hl o ho, lenp f (hB f hf)]) hc hcf
            rw [h1] at h2
            cases h2
      · intro h f hf
        have hfp := hB f hf
        rcases h f ((hmem f).mpr (by simp [hfp])) with e | e
        · have := hbefore f hfp
          rw [e, ltI_irrefl] at this
          cases this
        · exact e
    have hp2 : sortU ms = (p ++ [m]) ++ q := by rw [hp]; simp
    rw [List.foldl_cons, List.filter_cons]
    cases hq : minl ms m
    · rw [hq] at key
      have e1 : basStep fs m = fs := by unfold basStep; rw [key]; simp
      rw [e1, bas_fold ms n hl q (p ++ [m]) hp2 fs (fun o ho => ?_) (fun f hf => by simp [hB f hf])]
      · simp
      · rcases List.mem_append.mp ho with z | z
        · exact hA o z
        · rw [List.mem_singleton.mp z]
          have : ¬ (fs.all fun o => !cov m o) = true := by rw [key]; simp
          simp only [List.all_eq_true, Bool.not_eq_true', Classical.not_forall] at this
          obtain ⟨f, hf, hc⟩ := this
          exact ⟨f, hf, by simpa using hc⟩
    · rw [hq] at key
      have e1 : basStep fs m = fs ++ [m] := by unfold basStep; rw [key]; simp
      rw [e1, bas_fold ms n hl q (p ++ [m]) hp2 (fs ++ [m]) (fun o ho => ?_) (fun f hf => ?_)]
      · simp
      · rcases List.mem_append.mp ho with z | z
        · obtain ⟨f, hf, hc⟩ := hA o z
          exact ⟨f, by simp [hf], hc⟩
        · rw [List.mem_singleton.mp z]
          exact ⟨m, by simp, cov_refl m⟩
      · rcases List.mem_append.mp hf with z | z
        · simp [hB f z]
        · rw [List.mem_singleton.mp z]; simp
theorem bas_least (ms : List (List Int)) (n : Nat) (hl : ∀ m ∈ ms, m.length = n) : basL ms = leastL ms := by
  have := bas_fold ms n hl (sortU ms) [] rfl [] (fun _ h => nomatch h) (fun _ h => nomatch h)
  simpa [basL, leastL] using this
noncomputable def gBasC (F : FSem) : SM := (sSet 3 (sAndV (sVar 3) (sO (oS gNot) (sCons true (sCallL 2 F (sCons true (sVar 2) (sCons true (sVar 4) sNil))) sNil))))
noncomputable def gBasB (F : FSem) : SM := (sSeq (sSet 3 (sC (.bl true)))
    (sSeq (sForN 1 (gmName 4) (gBasC F))
    (sIfS (sTr (sVar 3))
      (sApp 1 (sVar 2))
      sNext)))
noncomputable def gBas (F : FSem) : SM :=
  (sSeq (sSet 1 (sTake hLst sNil))
  (sSeq (sFor (sO oSortSet (sCons true (sVar 0) sNil)) (gmName 2) (gBasB F))
  (sRet (sVar 1))))
theorem basC_loop (s0 s1 : Option T) (m : List Int) (h : m.length < 1000000) : ∀ (fs : List (List Int)) (b : Bool) (o : Option T), (∀ f ∈ fs, m.length = f.length) → ∃ o', forF (gmName 4) (gBasC FCov) (fs.map dT) [s0, s1, some (.z (dT m)), some (bT b), o] = some (.nx [s0, s1, some (.z (dT m)), some (bT (b && fs.all fun o => !cov m o)), o'])
  | [], b, o, _ => ⟨o, by simp [forF]⟩
  | f :: fs, b, o, hl => by
    have hF : FCov _ = _ := cov_ev m f (hl f List.mem_cons_self) h
    have e : gBasC FCov [s0, s1, some (.z (dT m)), some (bT b), some (.z (dT f))] = some (.nx [s0, s1, some (.z (dT m)), some (bT (b && !cov m f)), some (.z (dT f))]) := by
      unfold gBasC
      cases b <;> simp [hF]
    obtain ⟨o', ih⟩ := basC_loop s0 s1 m h fs (b && !cov m f) (some (.z (dT f))) fun z hz => hl z (List.mem_cons_of_mem _ hz)
    refine ⟨o', ?_⟩
    have st : forF (gmName 4) (gBasC FCov) ((f :: fs).map dT) [s0, s1, some (.z (dT m)), some (bT b), o] = (match gBasC FCov [s0, s1, some (.z (dT m)), some (bT b), some (.z (dT f))] with
      | some (.nx e) => forF (gmName 4) (gBasC FCov) (fs.map dT) e
      | some (.ct e) => forF (gmName 4) (gBasC FCov) (fs.map dT) e
      | some (.bk e) => some (.nx e)
      | o => o) := rfl
    rw [st, e]
    refine ih.trans ?_
    rw [List.all_cons, Bool.and_assoc]
theorem basB_ev (s0 : Option T) (fs : List (List Int)) (m : List Int) (s3 s4 : Option T) (h : m.length < 1000000) (hl : ∀ o ∈ fs, m.length = o.length) (hf : fs.length < 10000) :
    ∃ s3' s4', gBasB FCov [s0, some (.lst (fs.map fun v => .z (dT v))), some (.z (dT m)), s3, s4] = some (.nx [s0, some (.lst ((basStep fs m).map fun v => .z (dT v))), some (.z (dT m)), s3', s4']) := by
  have hlen : fs.length < sizeLine := Nat.lt_trans hf sizeLine_val
  obtain ⟨o', hloop⟩ := basC_loop s0 none m h fs true s4 hl
  rw [Bool.true_and] at hloop
  obtain ⟨b, hb⟩ : ∃ b, (fs.all fun o => !cov m o) = b := ⟨_, rfl⟩
  rw [hb] at hloop
  refine ⟨some (bT b), o', ?_⟩
  have e1 : (sSet 3 (sC (.bl true))) [s0, some (.lst (fs.map fun v => .z (dT v))), some (.z (dT m)), s3, s4] = some (.nx [s0, some (.lst (fs.map fun v => .z (dT v))), some (.z (dT m)), some (bT true), s4]) := rfl
  have e2 : (sForN 1 (gmName 4) (gBasC FCov)) [s0, some (.lst (fs.map fun v => .z (dT v))), some (.z (dT m)), some (bT true), s4] = some (.nx [s0, some (.lst (fs.map fun v => .z (dT v))), some (.z (dT m)), some (bT b), o']) := by
    rw [sForN_ap]
    simp only [List.getElem?_cons_succ, List.getElem?_cons_zero, T.els, T.elsL, zs_mapz]
    have : ([s0, some (.lst (fs.map fun v => .z (dT v))), some (.z (dT m)), some (bT true), s4] : En).set 1 none = [s0, none, some (.z (dT m)), some (bT true), s4] := rfl
    rw [this, hloop]
    rfl
  unfold gBasB
  rw [sSeq_nx e1, sSeq_nx e2]
  unfold basStep
  rw [hb]
  cases b
  · simp
  · simp [hlen]
theorem bas_ev (ms : List (List Int)) (n : Nat) (hn : n < 1000000) (h0 : 0 < n) (hl : ∀ m ∈ ms, m.length = n) (hs : ms.length < 64) : fnOf 1 5 [] (gBas FCov) [.z (LT ms)] = some (.rt (.lst ((leastL ms).map fun v => .z (dT v))) []) := by
  have hne : ∀ m ∈ ms, m ≠ [] := fun m hm z => by have := hl m hm; rw [z] at this; simp at this; omega
  have hbl : ∀ k, (∀ f ∈ ((sortU ms).take k).foldl basStep [], f ∈ ms) ∧ (((sortU ms).take k).foldl basStep []).length ≤ ((sortU ms).take k).length := by
    intro k
    have : ∀ (l fs : List (List Int)), (∀ f ∈ fs, f ∈ ms) → (∀ f ∈ l, f ∈ ms) → (∀ f ∈ l.foldl basStep fs, f ∈ ms) ∧ (l.foldl basStep fs).length ≤ fs.length + l.length := by
      intro l
      induction l with
      | nil => intro fs h _; exact ⟨h, by simp⟩
      | cons x l ih =>
        intro fs h h2
        have hx := h2 x List.mem_cons_self
        obtain ⟨a, b⟩ := ih (basStep fs x) (fun f hf => by
          unfold basStep at hf
          split at hf
          · rcases List.mem_append.mp hf with z | z
            · exact h f z
            · rw [List.mem_singleton.mp z]; exact hx
          · exact h f hf) fun f hf => h2 f (List.mem_cons_of_mem _ hf)
        refine ⟨a, ?_⟩
        have := basStep_len fs x
        rw [List.foldl_cons, List.length_cons]
        omega
    have z := this ((sortU ms).take k) [] (fun _ h => nomatch h) fun f hf => mem_sortU.mp (List.mem_of_mem_take hf)
    simpa using z
  obtain ⟨e, h1, s2, s3, s4, h2⟩ := forF_inv (s := gmName 2) (g := gBasB FCov) (ds := (sortU ms).map dT) (fun p e => ∃ s2 s3 s4, e = [some (.z (LT ms)), some (.lst ((((sortU ms).take p.length).foldl basStep []).map fun v => .z (dT v))), s2, s3, s4]) (env := [some (.z (LT ms)), some (.lst []), none, none, none]) ⟨none, none, none, rfl⟩ fun p d q env hx i => by
    obtain ⟨s2, s3, s4, rfl⟩ := i
    have hlt : p.length < (sortU ms).length := by
      have := congrArg List.length hx
      simp at this
      omega
    have hd : d = dT (sortU ms)[p.length] := by
      have := congrArg (fun l => l[p.length]?) hx
      simpa [hlt] using this.symm
    obtain ⟨m, hm⟩ : ∃ m, (sortU ms)[p.length] = m := ⟨_, rfl⟩
    have hmm : m ∈ ms := mem_sortU.mp (by rw [← hm]; exact List.getElem_mem hlt)
    rw [hm] at hd
    subst hd
    have hb := hbl p.length
    obtain ⟨s3', s4', hb⟩ := basB_ev (some (.z (LT ms))) (((sortU ms).take p.length).foldl basStep []) m s3 s4 (by rw [hl m hmm]; exact hn) (fun o ho => by rw [hl m hmm, hl o (hb.1 o ho)]) (Nat.lt_of_le_of_lt (Nat.le_trans hb.2 (Nat.le_trans (List.length_take_le' _ _) (sortU_len ms))) (by omega))
    refine ⟨_, _, rfl, .inl hb, some (.z (dT m)), s3', s4', ?_⟩
    have : (sortU ms).take (p ++ [dT m]).length = (sortU ms).take p.length ++ [m] := by
      rw [List.length_append, List.length_singleton, List.take_add_one, List.getElem?_eq_getElem hlt, hm]
      rfl
    rw [this, List.foldl_append]
    rfl
  rw [List.length_map, List.take_length] at h2
  subst h2
  refine fn_rt (e := [some (.z (LT ms)), none, s2, s3, s4]) rfl ?_
  have e1 : (sSet 1 (sTake hLst sNil)) [some (.z (LT ms)), none, none, none, none] = some (.nx [some (.z (LT ms)), some (.lst []), none, none, none]) := by simp
  have e2 : (sFor (sO oSortSet (sCons true (sVar 0) sNil)) (gmName 2) (gBasB FCov)) [some (.z (LT ms)), some (.lst []), none, none, none] = some (.nx [some (.z (LT ms)), some (.lst ((basL ms).map fun v => .z (dT v))), s2, s3, s4]) := by
    have hS := oSortSet_ev [some (.z (LT ms)), some (.lst []), none, none, none] ms (.t (.z (LT ms))) (.z (LT ms)) rfl rfl hs hne
    rw [sFor_ap]
    simp only [sO_ap, sCons_ap, sVar_ap, List.getElem?_cons_zero, sNil_ap, Bool.true_or, if_true, hS, T.els, T.elsL, zs_mapz]
    exact h1
  rw [← bas_least ms n hl]
  exact (sSeq_nx e1).trans ((sSeq_nx e2).trans rfl)
/-! ### what the least are -/
theorem least_sub {ms : List (List Int)} {m : List Int} (h : m ∈ leastL ms) : m ∈ ms := mem_sortU.mp (List.mem_filter.mp h).1
theorem least_below (ms : List (List Int)) (n : Nat) (hl : ∀ m ∈ ms, m.length = n) : ∀ m ∈ ms, ∃ f ∈ leastL ms, cov m f = true := by
  have : ∀ (q p : List (List Int)), sortU ms = p ++ q → (∀ o ∈ p, ∃ f ∈ p.filter (minl ms), cov o f = true) → ∀ o ∈ sortU ms, ∃ f ∈ (sortU ms).filter (minl ms), cov o f = true := by
    intro q
    induction q with
    | nil =>
      intro p hp h
      rw [List.append_nil] at hp
      rw [hp]
      exact h
    | cons m q ih =>
      intro p hp h
      have hs := sorted_sortU ms
      rw [hp] at hs
      have hmem : ∀ z, z ∈ ms ↔ z ∈ p ++ m :: q := fun z => by rw [← hp]; exact mem_sortU.symm
      have hm : m ∈ ms := (hmem m).mpr (by simp)
      have hafter : ∀ z ∈ q, ltI m z = true := fun z hz => (List.pairwise_cons.mp (List.pairwise_append.mp hs).2.1).1 z hz
      refine ih (p ++ [m]) (by rw [hp]; simp) fun o ho => ?_
      rw [List.filter_append]
      rcases List.mem_append.mp ho with z | z
      · obtain ⟨f, hf, hc⟩ := h o z
        exact ⟨f, List.mem_append_left _ hf, hc⟩
      · rw [List.mem_singleton.mp z]
        cases hq : minl ms m
        · have h2 : ¬ minl ms m = true := by rw [hq]; simp
          unfold minl at h2
          simp only [List.all_eq_true, Bool.not_eq_true', Bool.and_eq_false_iff, decide_eq_false_iff_not, Classical.not_not, Classical.not_forall, not_or] at h2
          obtain ⟨o, ho, hne, hc⟩ := h2
          have hc : cov m o = true := by simpa using hc
          have lt : ltI o m = true := cov_lt (by rw [hl m hm, hl o ho]) hc hne
          have hop : o ∈ p := by
            rcases List.mem_append.mp ((hmem o).mp ho) with z | z
            · exact z
            · rcases List.mem_cons.mp z with z | z
              · exact absurd z hne
              · have := ltI_trans lt (hafter o z)
                rw [ltI_irrefl] at this
                cases this
          obtain ⟨f, hf, hcf⟩ := h o hop
          have hfm : f ∈ ms := (hmem f).mpr (by simp [(List.mem_filter.mp hf).1])
          exact ⟨f, List.mem_append_left _ hf, cov_trans (by rw [hl m hm, hl o ho]) (by rw [hl o ho, hl f hfm]) hc hcf⟩
        · exact ⟨m, List.mem_append_right _ (by simp [hq]), cov_refl m⟩
  intro m hm
  exact this (sortU ms) [] rfl (fun _ h => nomatch h) m (mem_sortU.mpr hm)
theorem ins_iff {ms : List (List Int)} {x : List Int} : ins ms x = true ↔ ∃ m ∈ ms, cov x m = true := by simp [ins]
theorem ins_least (ms : List (List Int)) (n : Nat) (hl : ∀ m ∈ ms, m.length = n) (x : List Int) (hx : x.length = n) : ins (leastL ms) x = ins ms x := by
  rw [Bool.eq_iff_iff, ins_iff, ins_iff]
  constructor
  · rintro ⟨m, hm, hc⟩
    exact ⟨m, least_sub hm, hc⟩
  · rintro ⟨m, hm, hc⟩
    obtain ⟨f, hf, hcf⟩ := least_below ms n hl m hm
    exact ⟨f, hf, cov_trans (by rw [hx, hl m hm]) (by rw [hl m hm, hl f (least_sub hf)]) hc hcf⟩
theorem sorted_least (ms : List (List Int)) : (leastL ms).Pairwise (fun a b => ltI a b = true) := (sorted_sortU ms).sublist List.filter_sublist
theorem least_least (ms : List (List Int)) : leastL (leastL ms) = leastL ms := by
  have e : sortU (leastL ms) = leastL ms := sorted_one (sorted_sortU _) (sorted_least ms) fun z => mem_sortU
  have : leastL (leastL ms) = (leastL ms).filter (minl (leastL ms)) := by
    conv => lhs; unfold leastL
    rw [show sortU ((sortU ms).filter (minl ms)) = (sortU ms).filter (minl ms) from e]
    rfl
  rw [this]
  apply List.filter_eq_self.mpr
  intro m hm
  have h1 := (List.mem_filter.mp hm).2
  unfold minl at h1 ⊢
  rw [List.all_eq_true] at h1 ⊢
  exact fun o ho => h1 o (least_sub ho)
end DL

namespace DL
open PySem PySem.Spec PyProof.Rows L2
@[simp] theorem imms_ints (xs : List Int) : D.imms (xs.map D.int) = true := imms_map _ (fun _ => rfl) xs
/-! ### join -/
def mxI (a b : Int) : Int := if b > a then b else a
def joinL (a b : List Int) : List Int := (List.range a.length).map fun k => mxI (a.getD k 0) (b.getD k 0)
theorem joinL_len (a b : List Int) : (joinL a b).length = a.length := by simp [joinL]
def gMaxE (i j k : Nat) : EM Opd := (sO oMax2 (sCons true (sO oIx (sCons true (sVar i) (sCons true (sVar k) sNil))) (sCons true (sO oIx (sCons true (sVar j) (sCons true (sVar k) sNil))) sNil)))
noncomputable def gJoin : SM := (sRet (sO oTupOf (sCons true (sLcR [2] gRng1 (sCons true (sO (oS gLen) (sCons true (sVar 0) sNil)) sNil) (gmName 2) sYes (gMaxE 0 1 2)) sNil)))
theorem maxE_ev (a b : List Int) (k : Nat) (h : k < a.length) (h2 : k < b.length) : gMaxE 0 1 2 [some (.z (dT a)), some (.z (dT b)), some (iT k)] = some (.ok (.t (iT (mxI (a.getD k 0) (b.getD k 0)))) [some (.z (dT a)), some (.z (dT b)), some (iT k)]) := by
  unfold gMaxE mxI
  simp [h, h2]
theorem join_comp (a b : List Int) (hl : a.length = b.length) (h : a.length < 10000) : compF [2] (gmName 2) sYes (gMaxE 0 1 2) (rngD 0 a.length) [some (.z (dT a)), some (.z (dT b)), none] [] = some ((joinL a b).map iT, [some (.z (dT a)), some (.z (dT b)), none]) := by
  have e := compF_map (own := [2]) (s := gmName 2) (fe := gMaxE 0 1 2) (fun k : Nat => D.int (0 + (k : Int))) (fun k : Nat => iT (mxI (a.getD k 0) (b.getD k 0))) (env := [some (.z (dT a)), some (.z (dT b)), none]) (List.range a.length) (by simpa using h) fun k hk => by
    have hk := List.mem_range.mp hk
    refine ⟨[some (.z (dT a)), some (.z (dT b)), some (iT k)], .t (iT (mxI (a.getD k 0) (b.getD k 0))), [some (.z (dT a)), some (.z (dT b)), some (iT k)], [some (.z (dT a)), some (.z (dT b)), some (iT k)], ?_, maxE_ev a b k hk (by omega), rfl, rfl⟩
    rw [Int.zero_add]
    rfl
  rw [rngD_map, e]
  simp [joinL]
theorem join_ev (a b : List Int) (hl : a.length = b.length) (h : a.length < 10000) : fnOf 2 3 [] gJoin [.z (dT a), .z (dT b)] = some (.rt (.z (dT (joinL a b))) []) := by
  refine fn_rt (e := [some (.z (dT a)), some (.z (dT b)), none]) rfl ?_
  unfold gJoin
  have hg := gRng1_ev a.length (by omega)
  have e := join_comp a b hl h
  simp [-gRng1, hg, e]
noncomputable abbrev FJoin : FSem := fnOf 2 3 [] gJoin
theorem cov_max_aux : ∀ (x a b : List Int), x.length = a.length → a.length = b.length → cov x ((a.zip b).map fun p => mxI p.1 p.2) = (cov x a && cov x b)
  | [], [], [], _, _ => rfl
  | x :: xs, a :: as, b :: bs, h1, h2 => by
    have ih := cov_max_aux xs as bs (by simpa using h1) (by simpa using h2)
    simp only [List.zip_cons_cons, List.map_cons, cov, ih]
    have : decide (mxI a b ≤ x) = (decide (a ≤ x) && decide (b ≤ x)) := by
      rw [Bool.eq_iff_iff]
      simp only [decide_eq_true_eq, Bool.and_eq_true]
      unfold mxI
      split <;> omega
    rw [this]
    cases decide (a ≤ x) <;> cases decide (b ≤ x) <;> cases cov xs as <;> rfl
theorem joinL_zip (a b : List Int) (h : a.length = b.length) : joinL a b = (a.zip b).map fun p => mxI p.1 p.2 := by
  apply List.ext_getElem
  · simp [joinL, h]
  · intro i h1 h2
    have h3 : i < a.length := by rw [joinL_len] at h1; exact h1
    simp [joinL, h3, show i < b.length by omega]
theorem cov_join (x a b : List Int) (h1 : x.length = a.length) (h2 : a.length = b.length) : cov x (joinL a b) = (cov x a && cov x b) := by
  rw [joinL_zip a b h2, cov_max_aux x a b h1 h2]
/-! ### meet -/
noncomputable def gMeetB (FJ : FSem) : SM := (sApp 2 (sCallL 2 FJ (sCons true (sVar 3) (sCons true (sVar 4) sNil))))
noncomputable def gMeet (FJ FB : FSem) : SM :=
  (sSeq (sSet 2 (sTake hLst sNil))
  (sSeq (sForN 0 (gmName 3)
    (sForN 1 (gmName 4) (gMeetB FJ)))
  (sRet (sCallL 1 FB (sCons true (sVar 2) sNil)))))
noncomputable abbrev FBas : FSem := fnOf 1 5 [] (gBas FCov)
def joins (A B : List (List Int)) : List (List Int) := (A.map fun a => B.map fun b => joinL a b).flatten
theorem meetI_ev (dA : D) (a : List Int) (B : List (List Int)) (n : Nat) (hn : n < 10000) (ha : a.length = n) (hB : ∀ b ∈ B, b.length = n) (fs : List (List Int)) (o : Option T) (hs : fs.length + B.length < 10000) :
    ∃ o', sForN 1 (gmName 4) (gMeetB FJoin) [some (.z dA), some (.z (LT B)), some (.lst (fs.map fun v => .z (dT v))), some (.z (dT a)), o] = some (.nx [some (.z dA), some (.z (LT B)), some (.lst ((fs ++ B.map fun b => joinL a b).map fun v => .z (dT v))), some (.z (dT a)), o']) := by
  have go : ∀ (B' : List (List Int)) (fs : List (List Int)) (o : Option T), (∀ b ∈ B', b.length = n) → fs.length + B'.length < 10000 → ∃ o', forF (gmName 4) (gMeetB FJoin) (B'.map dT) [some (.z dA), some (.z (LT B)), some (.lst (fs.map fun v => .z (dT v))), some (.z (dT a)), o] = some (.nx [some (.z dA), some (.z (LT B)), some (.lst ((fs ++ B'.map fun b => joinL a b).map fun v => .z (dT v))), some (.z (dT a)), o']) := by
    intro B'
    induction B' with
    | nil => intro fs o _ _; exact ⟨o, by simp [forF]⟩
    | cons b B' ih =>
      intro fs o hb hs
      have hlen : fs.length < sizeLine := by
        have := sizeLine_val
        simp at hs
        omega
      have hF : FJoin _ = _ := join_ev a b (by rw [ha, hb b List.mem_cons_self]) (by omega)
      have hi := dT_imm (joinL a b)
      have e : gMeetB FJoin [some (.z dA), some (.z (LT B)), some (.lst (fs.map fun v => .z (dT v))), some (.z (dT a)), some (.z (dT b))] = some (.nx [some (.z dA), some (.z (LT B)), some (.lst ((fs ++ [joinL a b]).map fun v => .z (dT v))), some (.z (dT a)), some (.z (dT b))]) := by
        unfold gMeetB
        simp [hF, hi, hlen]
      obtain ⟨o', ih⟩ := ih (fs ++ [joinL a b]) (some (.z (dT b))) (fun z hz => hb z (List.mem_cons_of_mem _ hz)) (by simp at hs ⊢; omega)
      refine ⟨o', ?_⟩
      have st : forF (gmName 4) (gMeetB FJoin) ((b :: B').map dT) [some (.z dA), some (.z (LT B)), some (.lst (fs.map fun v => .z (dT v))), some (.z (dT a)), o] = (match gMeetB FJoin [some (.z dA), some (.z (LT B)), some (.lst (fs.map fun v => .z (dT v))), some (.z (dT a)), some (.z (dT b))] with
        | some (.nx e) => forF (gmName 4) (gMeetB FJoin) (B'.map dT) e
        | some (.ct e) => forF (gmName 4) (gMeetB FJoin) (B'.map dT) e
        | some (.bk e) => some (.nx e)
        | o => o) := rfl
      rw [st, e]
      refine ih.trans ?_
      simp
  obtain ⟨o', h⟩ := go B fs o hB hs
  exact ⟨o', h⟩
theorem joins_len (A B : List (List Int)) : (joins A B).length = A.length * B.length := by
  induction A with
  | nil => simp [joins]
  | cons a A ih =>
    have : joins (a :: A) B = (B.map fun b => joinL a b) ++ joins A B := rfl
    rw [this, List.length_append, ih, List.length_map, List.length_cons, Nat.succ_mul]
    omega
theorem mem_joins {A B : List (List Int)} {m : List Int} : m ∈ joins A B ↔ ∃ a ∈ A, ∃ b ∈ B, m = joinL a b := by
  simp only [joins, List.mem_flatten, List.mem_map]
  constructor
  · rintro ⟨l, ⟨a, ha, rfl⟩, h⟩
    obtain ⟨b, hb, rfl⟩ := List.mem_map.mp h
    exact ⟨a, ha, b, hb, rfl⟩
  · rintro ⟨a, ha, b, hb, rfl⟩
    exact ⟨_, ⟨a, ha, rfl⟩, List.mem_map.mpr ⟨b, hb, rfl⟩⟩
theorem meet_ev (A B : List (List Int)) (n : Nat) (hn : n < 10000) (h0 : 0 < n) (hA : ∀ a ∈ A, a.length = n) (hB : ∀ b ∈ B, b.length = n) (hs : A.length * B.length < 64) :
    fnOf 2 5 [] (gMeet FJoin FBas) [.z (LT A), .z (LT B)] = some (.rt (.lst ((leastL (joins A B)).map fun v => .z (dT v))) []) := by
  have go : ∀ (A' : List (List Int)) (fs : List (List Int)) (o o2 : Option T), (∀ a ∈ A', a.length = n) → fs.length + A'.length * B.length < 10000 → ∃ o' o2', forF (gmName 3) (sForN 1 (gmName 4) (gMeetB FJoin)) (A'.map dT) [some (.z (LT A)), some (.z (LT B)), some (.lst (fs.map fun v => .z (dT v))), o, o2] = some (.nx [some (.z (LT A)), some (.z (LT B)), some (.lst ((fs ++ joins A' B).map fun v => .z (dT v))), o', o2']) := by
    intro A'
    induction A' with
    | nil => intro fs o o2 _ _; exact ⟨o, o2, by simp [forF, joins]⟩
    | cons a A' ih =>
      intro fs o o2 ha hs
      rw [List.length_cons, Nat.succ_mul] at hs
      obtain ⟨o1, e⟩ := meetI_ev (LT A) a B n hn (ha a List.mem_cons_self) hB fs o2 (by omega)
      obtain ⟨o', o2', ih⟩ := ih (fs ++ B.map fun b => joinL a b) (some (.z (dT a))) o1 (fun z hz => ha z (List.mem_cons_of_mem _ hz)) (by simp; omega)
      refine ⟨o', o2', ?_⟩
      have st : forF (gmName 3) (sForN 1 (gmName 4) (gMeetB FJoin)) ((a :: A').map dT) [some (.z (LT A)), some (.z (LT B)), some (.lst (fs.map fun v => .z (dT v))), o, o2] = (match sForN 1 (gmName 4) (gMeetB FJoin) [some (.z (LT A)), some (.z (LT B)), some (.lst (fs.map fun v => .z (dT v))), some (.z (dT a)), o2] with
        | some (.nx e) => forF (gmName 3) (sForN 1 (gmName 4) (gMeetB FJoin)) (A'.map dT) e
        | some (.ct e) => forF (gmName 3) (sForN 1 (gmName 4) (gMeetB FJoin)) (A'.map dT) e
        | some (.bk e) => some (.nx e)
        | o => o) := rfl
      rw [st, e]
      refine ih.trans ?_
      have : joins (a :: A') B = (B.map fun b => joinL a b) ++ joins A' B := rfl
      rw [this, List.append_assoc]
  obtain ⟨o, o2, h⟩ := go A [] none none hA (by simp; omega)
  have hjl : ∀ m ∈ joins A B, m.length = n := fun m hm => by
    obtain ⟨a, ha, b, hb, rfl⟩ := mem_joins.mp hm
    rw [joinL_len, hA a ha]
  have hF : FBas _ = _ := bas_ev (joins A B) n (by omega) h0 hjl (by rw [joins_len]; exact hs)
  refine fn_rt (e := [some (.z (LT A)), some (.z (LT B)), some (.lst ((joins A B).map fun v => .z (dT v))), o, o2]) rfl ?_
  have e1 : (sSet 2 (sTake hLst sNil)) [some (.z (LT A)), some (.z (LT B)), none, none, none] = some (.nx [some (.z (LT A)), some (.z (LT B)), some (.lst (([] : List (List Int)).map fun v => .z (dT v))), none, none]) := by simp
  have e2 : (sForN 0 (gmName 3) (sForN 1 (gmName 4) (gMeetB FJoin))) [some (.z (LT A)), some (.z (LT B)), some (.lst (([] : List (List Int)).map fun v => .z (dT v))), none, none] = some (.nx [some (.z (LT A)), some (.z (LT B)), some (.lst ((joins A B).map fun v => .z (dT v))), o, o2]) := h
  have hc : (T.lst ((leastL (joins A B)).map fun v => .z (dT v))).clean = true := by
    rw [T.clean]
    exact cleans_map _ dT_imm _
  have e3 : (sRet (sCallL 1 FBas (sCons true (sVar 2) sNil))) [some (.z (LT A)), some (.z (LT B)), some (.lst ((joins A B).map fun v => .z (dT v))), o, o2] = some (.rt (.lst ((leastL (joins A B)).map fun v => .z (dT v))) [some (.z (LT A)), some (.z (LT B)), some (.lst ((joins A B).map fun v => .z (dT v))), o, o2]) := by
    simp [hF, hc]
  exact (sSeq_nx e1).trans ((sSeq_nx e2).trans e3)
/-! ### closed_within -/
noncomputable def gWithB (F : FSem) : SM := (sIfS (sNot (sTr (sCallL 2 F (sCons true (sVar 1) (sCons true (sVar 2) sNil))))) (sRet (sC (.bl false))) sNext)
noncomputable def gWith (F : FSem) : SM := (sSeq (sForN 0 (gmName 2) (gWithB F)) (sRet (sC (.bl true))))
theorem with_ev (A B : List (List Int)) (n : Nat) (hn : n < 10000) (hA : ∀ a ∈ A, a.length = n) (hB : ∀ b ∈ B, b.length = n) : fnOf 2 3 [] (gWith FIns) [.z (LT A), .z (LT B)] = some (.rt (bT (A.all fun a => ins B a)) []) := by
  have go : ∀ (A' : List (List Int)) (o : Option T), (∀ a ∈ A', a.length = n) → ∃ e, forF (gmName 2) (gWithB FIns) (A'.map dT) [some (.z (LT A)), some (.z (LT B)), o] = if (A'.all fun a => ins B a) = true then some (.nx e) else some (.rt (bT false) e) := by
    intro A'
    induction A' with
    | nil => intro o _; exact ⟨_, rfl⟩
    | cons a A' ih =>
      intro o ha
      have hF : FIns _ = _ := ins_ev B a (fun m hm => by rw [ha a List.mem_cons_self, hB m hm]) (by rw [ha a List.mem_cons_self]; omega)
      have e : gWithB FIns [some (.z (LT A)), some (.z (LT B)), some (.z (dT a))] = if ins B a = true then some (.nx [some (.z (LT A)), some (.z (LT B)), some (.z (dT a))]) else some (.rt (bT false) [some (.z (LT A)), some (.z (LT B)), some (.z (dT a))]) := by
        unfold gWithB
        cases hc : ins B a <;> rw [hc] at hF <;> simp [hF]
      have st : forF (gmName 2) (gWithB FIns) ((a :: A').map dT) [some (.z (LT A)), some (.z (LT B)), o] = (match gWithB FIns [some (.z (LT A)), some (.z (LT B)), some (.z (dT a))] with
        | some (.nx e) => forF (gmName 2) (gWithB FIns) (A'.map dT) e
        | some (.ct e) => forF (gmName 2) (gWithB FIns) (A'.map dT) e
        | some (.bk e) => some (.nx e)
        | o => o) := rfl
      rw [st, e, List.all_cons]
      cases hc : ins B a
      · exact ⟨_, rfl⟩
      · obtain ⟨e, ih⟩ := ih (some (.z (dT a))) fun z hz => ha z (List.mem_cons_of_mem _ hz)
        exact ⟨e, ih⟩
  obtain ⟨e, h⟩ := go A none hA
  have e1 : (sForN 0 (gmName 2) (gWithB FIns)) [some (.z (LT A)), some (.z (LT B)), none] = if (A.all fun a => ins B a) = true then some (.nx e) else some (.rt (bT false) e) := h
  cases hc : (A.all fun a => ins B a)
  · rw [hc] at e1
    exact fn_rt rfl (sSeq_rt e1)
  · rw [hc] at e1
    exact fn_rt rfl (sSeq_nx e1)
end DL

namespace DL
open PySem PySem.Spec PyProof.Rows L2
/-! ### loops that ask something of each index, or of each item -/
theorem sIfS_b {fc : EM Bool} {g h : SM} {env e : En} {b : Bool} (x : fc env = some (.ok b e)) : sIfS fc g h env = if b = true then g e else h e := by rw [sIfS_ap, x]
noncomputable def gAllIx (t : EM Bool) : SM := sSeq (sForR gRng1 (sCons true (sO (oS gLen) (sCons true (sVar 0) sNil)) sNil) (gmName 2) (sIfS t (sRet (sC (.bl false))) sNext)) (sRet (sC (.bl true)))
/-- t says: broken at k -/
theorem allIx_ev (t : EM Bool) (a b : List Int) (c : Nat → Bool) (h : a.length < 1000000) (ht : ∀ k, k < a.length → t [some (.z (dT a)), some (.z (dT b)), some (iT k)] = some (.ok (!c k) [some (.z (dT a)), some (.z (dT b)), some (iT k)])) :
    fnOf 2 3 [] (gAllIx t) [.z (dT a), .z (dT b)] = some (.rt (bT ((List.range a.length).all c)) []) := by
  have go : ∀ (n k : Nat) (o : Option T), k + n = a.length → ∃ e, forF (gmName 2) (sIfS t (sRet (sC (.bl false))) sNext) (rngD k n) [some (.z (dT a)), some (.z (dT b)), o] = if ((List.range' k n).all c) = true then some (.nx e) else some (.rt (bT false) e) := by
    intro n
    induction n with
    | zero => intro k o _; exact ⟨_, rfl⟩
    | succ n ih =>
      intro k o hk
      have e1 : sIfS t (sRet (sC (.bl false))) sNext [some (.z (dT a)), some (.z (dT b)), some (iT k)] = if c k = true then some (.nx [some (.z (dT a)), some (.z (dT b)), some (iT k)]) else some (.rt (bT false) [some (.z (dT a)), some (.z (dT b)), some (iT k)]) := by
        rw [sIfS_b (ht k (by omega))]
        cases c k <;> rfl
      have st : forF (gmName 2) (sIfS t (sRet (sC (.bl false))) sNext) (rngD k (n + 1)) [some (.z (dT a)), some (.z (dT b)), o] = (match sIfS t (sRet (sC (.bl false))) sNext [some (.z (dT a)), some (.z (dT b)), some (iT k)] with
        | some (.nx e) => forF (gmName 2) (sIfS t (sRet (sC (.bl false))) sNext) (rngD ((k : Int) + 1) n) e
        | some (.ct e) => forF (gmName 2) (sIfS t (sRet (sC (.bl false))) sNext) (rngD ((k : Int) + 1) n) e
        | some (.bk e) => some (.nx e)
        | o => o) := rfl
      rw [st, e1, List.range'_succ, List.all_cons]
      cases hc : c k
      · exact ⟨_, rfl⟩
      · obtain ⟨e, ih⟩ := ih (k + 1) (some (iT k)) (by omega)
        exact ⟨e, ih⟩
  obtain ⟨e, ih⟩ := go a.length 0 none (by omega)
  have e1 : (sForR gRng1 (sCons true (sO (oS gLen) (sCons true (sVar 0) sNil)) sNil) (gmName 2) (sIfS t (sRet (sC (.bl false))) sNext)) [some (.z (dT a)), some (.z (dT b)), none] = if ((List.range a.length).all c) = true then some (.nx e) else some (.rt (bT false) e) := by
    rw [forR1_ev (n := a.length) (by simp) h, List.range_eq_range']
    exact ih
  cases hc : (List.range a.length).all c
  · rw [hc] at e1
    exact fn_rt rfl (sSeq_rt e1)
  · rw [hc] at e1
    exact fn_rt rfl (sSeq_nx e1)
noncomputable def gAnyIt (t : EM Bool) : SM := sSeq (sForN 0 (gmName 2) (sIfS t (sRet (sC (.bl true))) sNext)) (sRet (sC (.bl false)))
theorem anyIt_ev (t : EM Bool) (ms : List (List Int)) (x : List Int) (c : List Int → Bool) (ht : ∀ m ∈ ms, t [some (.z (LT ms)), some (.z (dT x)), some (.z (dT m))] = some (.ok (c m) [some (.z (LT ms)), some (.z (dT x)), some (.z (dT m))])) :
    fnOf 2 3 [] (gAnyIt t) [.z (LT ms), .z (dT x)] = some (.rt (bT (ms.any c)) []) := by
  have go : ∀ (q : List (List Int)) (o : Option T), (∀ m ∈ q, m ∈ ms) → ∃ e, forF (gmName 2) (sIfS t (sRet (sC (.bl true))) sNext) (q.map dT) [some (.z (LT ms)), some (.z (dT x)), o] = if q.any c = true then some (.rt (bT true) e) else some (.nx e) := by
    intro q
    induction q with
    | nil => intro o _; exact ⟨_, rfl⟩
    | cons m q ih =>
      intro o hq
      have e1 : sIfS t (sRet (sC (.bl true))) sNext [some (.z (LT ms)), some (.z (dT x)), some (.z (dT m))] = if c m = true then some (.rt (bT true) [some (.z (LT ms)), some (.z (dT x)), some (.z (dT m))]) else some (.nx [some (.z (LT ms)), some (.z (dT x)), some (.z (dT m))]) := by
        rw [sIfS_b (ht m (hq m List.mem_cons_self))]
        cases c m <;> rfl
      have st : forF (gmName 2) (sIfS t (sRet (sC (.bl true))) sNext) ((m :: q).map dT) [some (.z (LT ms)), some (.z (dT x)), o] = (match sIfS t (sRet (sC (.bl true))) sNext [some (.z (LT ms)), some (.z (dT x)), some (.z (dT m))] with
        | some (.nx e) => forF (gmName 2) (sIfS t (sRet (sC (.bl true))) sNext) (q.map dT) e
        | some (.ct e) => forF (gmName 2) (sIfS t (sRet (sC (.bl true))) sNext) (q.map dT) e
        | some (.bk e) => some (.nx e)
        | o => o) := rfl
      rw [st, e1, List.any_cons]
      cases hc : c m
      · obtain ⟨e, ih⟩ := ih (some (.z (dT m))) fun z hz => hq z (List.mem_cons_of_mem _ hz)
        exact ⟨e, ih⟩
      · exact ⟨_, rfl⟩
  obtain ⟨e, ih⟩ := go ms none fun _ h => h
  have e1 : (sForN 0 (gmName 2) (sIfS t (sRet (sC (.bl true))) sNext)) [some (.z (LT ms)), some (.z (dT x)), none] = if ms.any c = true then some (.rt (bT true) e) else some (.nx e) := ih
  cases hc : ms.any c
  · rw [hc] at e1
    exact fn_rt rfl (sSeq_nx e1)
  · rw [hc] at e1
    exact fn_rt rfl (sSeq_rt e1)
/-! ### the greatest by a relation -/
section
variable (R : List Int → List Int → Bool)
/-- no other member of ms stands above m -/
def topB (ms : List (List Int)) (m : List Int) : Bool := ms.all fun o => !(decide (o ≠ m) && R m o)
def topL (ms : List (List Int)) : List (List Int) := (sortU ms).filter (topB R ms)
variable {R}
theorem top_sub {ms : List (List Int)} {m : List Int} (h : m ∈ topL R ms) : m ∈ ms := mem_sortU.mp (List.mem_filter.mp h).1
theorem topB_iff {ms : List (List Int)} {m : List Int} : topB R ms m = true ↔ ∀ o ∈ ms, R m o = true → o = m := by
  unfold topB
  simp only [List.all_eq_true, Bool.not_eq_true', Bool.and_eq_false_iff, decide_eq_false_iff_not, Classical.not_not]
  constructor
  · intro h o ho hr
    rcases h o ho with z | z
    · exact z
    · rw [hr] at z; cases z
  · intro h o ho
    cases hr : R m o
    · exact .inr rfl
    · exact .inl (h o ho hr)
theorem filter_lt {α : Type} (p q : α → Bool) : ∀ (l : List α), (∀ x ∈ l, p x = true → q x = true) → (∃ x ∈ l, q x = true ∧ p x = false) → (l.filter p).length < (l.filter q).length
  | [], _, ⟨_, h, _⟩ => by simp at h
  | a :: l, h1, h2 => by
    have le : (l.filter p).length ≤ (l.filter q).length := by
      clear h2
      have h1' : ∀ x ∈ l, p x = true → q x = true := fun x hx => h1 x (List.mem_cons_of_mem _ hx)
      clear h1
      induction l with
      | nil => simp
      | cons b l ih =>
        have ih := ih fun x hx => h1' x (List.mem_cons_of_mem _ hx)
        have hb := h1' b List.mem_cons_self
        simp only [List.filter_cons]
        cases hp : p b
        · cases hq : q b <;> simp <;> omega
        · rw [hb hp]; simp; omega
    obtain ⟨x, hx, hq, hp⟩ := h2
    simp only [List.filter_cons]
    rcases List.mem_cons.mp hx with rfl | hx
    · rw [hq, hp]; simp; omega
    · have := filter_lt p q l (fun x hx => h1 x (List.mem_cons_of_mem _ hx)) ⟨x, hx, hq, hp⟩
      have ha := h1 a List.mem_cons_self
      cases hpa : p a
      · cases hqa : q a <;> simp <;> omega
      · rw [ha hpa]; simp; omega
/-- a greatest one above each member -/
theorem top_above {ms : List (List Int)} (refl : ∀ m ∈ ms, R m m = true) (trans : ∀ a ∈ ms, ∀ b ∈ ms, ∀ c ∈ ms, R a b = true → R b c = true → R a c = true) (anti : ∀ a ∈ ms, ∀ b ∈ ms, R a b = true → R b a = true → a = b) :
    ∀ m ∈ ms, ∃ f ∈ topL R ms, R m f = true := by
  have : ∀ (n : Nat) (m : List Int), m ∈ ms → (ms.filter fun o => decide (o ≠ m) && R m o).length ≤ n → ∃ f ∈ topL R ms, R m f = true := by
    intro n
    induction n with
    | zero =>
      intro m hm h
      refine ⟨m, List.mem_filter.mpr ⟨mem_sortU.mpr hm, topB_iff.mpr fun o ho hr => ?_⟩, refl m hm⟩
      have e : (ms.filter fun o => decide (o ≠ m) && R m o) = [] := List.length_eq_zero_iff.mp (by omega)
      have := List.filter_eq_nil_iff.mp e o ho
      simp [hr] at this
      exact this
    | succ n ih =>
      intro m hm h
      cases hb : topB R ms m
      · have hb' : ¬ topB R ms m = true := by rw [hb]; simp
        rw [topB_iff] at hb'
        simp only [Classical.not_forall] at hb'
        obtain ⟨o, ho, hr, hne⟩ := hb'
        have lt : (ms.filter fun z => decide (z ≠ o) && R o z).length < (ms.filter fun z => decide (z ≠ m) && R m z).length := by
          refine filter_lt _ _ ms (fun z hz hp => ?_) ⟨o, ho, by simp [hne, hr], by simp⟩
          simp only [Bool.and_eq_true, decide_eq_true_eq] at hp ⊢
          refine ⟨fun e => ?_, trans m hm o ho z hz hr hp.2⟩
          subst e
          exact hne (anti o ho z hz hp.2 hr)
        obtain ⟨f, hf, hrf⟩ := ih o ho (by omega)
        exact ⟨f, hf, trans m hm o ho f (top_sub hf) hr hrf⟩
      · exact ⟨m, List.mem_filter.mpr ⟨mem_sortU.mpr hm, hb⟩, refl m hm⟩
  exact fun m hm => this _ m hm (Nat.le_refl _)
theorem sorted_top (ms : List (List Int)) : (topL R ms).Pairwise (fun a b => ltI a b = true) := (sorted_sortU ms).sublist List.filter_sublist
theorem top_top (ms : List (List Int)) : topL R (topL R ms) = topL R ms := by
  have e : sortU (topL R ms) = topL R ms := sorted_one (sorted_sortU _) (sorted_top ms) fun z => mem_sortU
  have : topL R (topL R ms) = (topL R ms).filter (topB R (topL R ms)) := by
    conv => lhs; unfold topL
    rw [show sortU ((sortU ms).filter (topB R ms)) = (sortU ms).filter (topB R ms) from e]
    rfl
  rw [this]
  apply List.filter_eq_self.mpr
  intro m hm
  have h1 := topB_iff.mp (List.mem_filter.mp hm).2
  exact topB_iff.mpr fun o ho hr => h1 o (top_sub ho) hr
end
/-! ### .. as the law computes them -/
section
variable (R : List Int → List Int → Bool) (F : FSem) (n : Nat) (hF : ∀ a b : List Int, a.length = n → b.length = n → F [.z (dT a), .z (dT b)] = some (.rt (bT (R a b)) []))
include hF
theorem topC_ev (s0 s1 s3 : Option T) (m o : List Int) (hm : m.length = n) (ho : o.length = n) : gLeastC F [s0, s1, some (.z (dT m)), s3, some (.z (dT o))] = some (.ok (decide (o ≠ m) && R m o) [s0, s1, some (.z (dT m)), s3, some (.z (dT o))]) := by
  have hF := hF m o hm ho
  unfold gLeastC
  by_cases e : o = m
  · simp [e]
  · simp [e, hF]
theorem topF_ev (s0 s1 s3 : Option T) (m : List Int) (hm : m.length = n) (ms : List (List Int)) (hl : ∀ o ∈ ms, o.length = n) (hs : ms.length < 10000) :
    compF [4] (gmName 4) (gLeastC F) (sVar 4) (ms.map dT) [s0, s1, some (.z (dT m)), s3, none] [] = some ((ms.filter fun o => decide (o ≠ m) && R m o).map (fun v => .z (dT v)), [s0, s1, some (.z (dT m)), s3, none]) := by
  have go : ∀ (ms : List (List Int)) (acc : List T), acc.length + ms.length < 10000 → (∀ o ∈ ms, o.length = n) → compF [4] (gmName 4) (gLeastC F) (sVar 4) (ms.map dT) [s0, s1, some (.z (dT m)), s3, none] acc = some (acc ++ (ms.filter fun o => decide (o ≠ m) && R m o).map (fun v => .z (dT v)), [s0, s1, some (.z (dT m)), s3, none]) := by
    intro ms
    induction ms with
    | nil => intro acc _ _; simp [compF]
    | cons o ms ih =>
      intro acc hs hl
      have hlen : acc.length < sizeLine := by
        have := sizeLine_val
        simp at hs
        omega
      have hc := topC_ev R F n hF s0 s1 s3 m o hm (hl o List.mem_cons_self)
      have hg : gmName 4 (.z (dT o)) [s0, s1, some (.z (dT m)), s3, none] = some [s0, s1, some (.z (dT m)), s3, some (.z (dT o))] := rfl
      rw [List.map_cons]
      unfold compF
      simp only [hg, hc]
      cases hq : (decide (o ≠ m) && R m o)
      · have := ih acc (by simp at hs; omega) fun z hz => hl z (List.mem_cons_of_mem _ hz)
        simp only [List.filter_cons, hq]
        exact this
      · have := ih (acc ++ [.z (dT o)]) (by simp at hs ⊢; omega) fun z hz => hl z (List.mem_cons_of_mem _ hz)
        have hv : sVar 4 [s0, s1, some (.z (dT m)), s3, some (.z (dT o))] = some (.ok (.t (.z (dT o))) [s0, s1, some (.z (dT m)), s3, some (.z (dT o))]) := rfl
        simp only [List.filter_cons, hq, hv, Opd.take, if_pos hlen]
        refine Eq.trans this ?_
        simp
  simpa using go ms [] (by simpa using hs) hl
theorem lawTopB_ev (ms fs : List (List Int)) (m : List Int) (s3 : Option T) (hm : m.length = n) (hl : ∀ o ∈ ms, o.length = n) (hs : ms.length < 10000) (hf : fs.length < 10000) :
    ∃ s3' s4', gLeastB F [some (.z (LT ms)), some (.lst (fs.map fun v => .z (dT v))), some (.z (dT m)), s3, none] = some (.nx [some (.z (LT ms)), some (.lst ((if topB R ms m = true then fs ++ [m] else fs).map fun v => .z (dT v))), some (.z (dT m)), s3', s4']) ∧ s4' = none := by
  have e := topF_ev R F n hF (some (.z (LT ms))) (some (.lst (fs.map fun v => .z (dT v)))) s3 m hm ms hl hs
  have hlen : fs.length < sizeLine := Nat.lt_trans hf sizeLine_val
  obtain ⟨sm, hsm⟩ : ∃ sm, (ms.filter fun o => decide (o ≠ m) && R m o) = sm := ⟨_, rfl⟩
  rw [hsm] at e
  have hmin : topB R ms m = sm.isEmpty := by
    rw [← hsm, Bool.eq_iff_iff, topB_iff, List.isEmpty_iff, List.filter_eq_nil_iff]
    refine forall_congr' fun o => forall_congr' fun ho => ?_
    simp
    constructor
    · intro h hn
      cases hr : R m o
      · rfl
      · exact absurd (h hr) hn
    · intro h hr
      exact Classical.byContradiction fun hn => by rw [h hn] at hr; cases hr
  have e1 : sSet 3 (sLcN [4] 0 (gmName 4) (gLeastC F) (sVar 4)) [some (.z (LT ms)), some (.lst (fs.map fun v => .z (dT v))), some (.z (dT m)), s3, none] = some (.nx [some (.z (LT ms)), some (.lst (fs.map fun v => .z (dT v))), some (.z (dT m)), some (.lst (sm.map fun v => .z (dT v))), none]) := by
    have : sLcN [4] 0 (gmName 4) (gLeastC F) (sVar 4) [some (.z (LT ms)), some (.lst (fs.map fun v => .z (dT v))), some (.z (dT m)), s3, none] = some (.ok (.t (.lst (sm.map fun v => .z (dT v)))) [some (.z (LT ms)), some (.lst (fs.map fun v => .z (dT v))), some (.z (dT m)), s3, none]) := by
      rw [sLcN_ap]
      simp only [List.getElem?_cons_zero, T.els, T.elsL, wipeE]
      have : ([some (.z (LT ms)), some (.lst (fs.map fun v => .z (dT v))), some (.z (dT m)), s3, none] : En).set 4 none = [some (.z (LT ms)), some (.lst (fs.map fun v => .z (dT v))), some (.z (dT m)), s3, none] := rfl
      rw [this, e]
    rw [sSet_ap, this]
    rfl
  refine ⟨some (.lst (sm.map fun v => .z (dT v))), none, ?_, rfl⟩
  unfold gLeastB
  rw [sSeq_nx e1, hmin]
  cases sm with
  | nil => simp [hlen]
  | cons x xs =>
    have : ¬ ((xs.length : Int) + 1 = 0) := by omega
    simp [this]
end
/-- a loop over the sorted members that gathers the greatest -/
theorem gather_ev (B : SM) (ms : List (List Int)) (p : List Int → Bool) (n : Nat) (h0 : 0 < n) (hl : ∀ m ∈ ms, m.length = n) (hs : ms.length < 64) (I4 : Option T → Prop) (h4 : I4 none)
    (hB : ∀ (fs : List (List Int)) (m : List Int) (s3 s4 : Option T), m ∈ ms → fs.length < 10000 → I4 s4 → ∃ s3' s4', B [some (.z (LT ms)), some (.lst (fs.map fun v => .z (dT v))), some (.z (dT m)), s3, s4] = some (.nx [some (.z (LT ms)), some (.lst ((if p m = true then fs ++ [m] else fs).map fun v => .z (dT v))), some (.z (dT m)), s3', s4']) ∧ I4 s4') :
    fnOf 1 5 [] (sSeq (sSet 1 (sTake hLst sNil)) (sSeq (sFor (sO oSortSet (sCons true (sVar 0) sNil)) (gmName 2) B) (sRet (sVar 1)))) [.z (LT ms)] = some (.rt (.lst (((sortU ms).filter p).map fun v => .z (dT v))) []) := by
  have hne : ∀ m ∈ ms, m ≠ [] := fun m hm z => by have := hl m hm; rw [z] at this; simp at this; omega
  obtain ⟨e, h1, s2, s3, s4, h2, _⟩ := forF_inv (s := gmName 2) (g := B) (ds := (sortU ms).map dT) (fun q e => ∃ s2 s3 s4, e = [some (.z (LT ms)), some (.lst ((((sortU ms).take q.length).filter p).map fun v => .z (dT v))), s2, s3, s4] ∧ I4 s4) (env := [some (.z (LT ms)), some (.lst []), none, none, none]) ⟨none, none, none, rfl, h4⟩ fun q d r env hx i => by
    obtain ⟨s2, s3, s4, rfl, i4⟩ := i
    have hlt : q.length < (sortU ms).length := by
      have := congrArg List.length hx
      simp at this
      omega
    have hd : d = dT (sortU ms)[q.length] := by
      have := congrArg (fun l => l[q.length]?) hx
      simpa [hlt] using this.symm
    obtain ⟨m, hm⟩ : ∃ m, (sortU ms)[q.length] = m := ⟨_, rfl⟩
    have hmm : m ∈ ms := mem_sortU.mp (by rw [← hm]; exact List.getElem_mem hlt)
    rw [hm] at hd
    subst hd
    obtain ⟨s3', s4', hb, i4'⟩ := hB (((sortU ms).take q.length).filter p) m s3 s4 hmm (Nat.lt_of_le_of_lt (Nat.le_trans (List.length_filter_le _ _) (Nat.le_trans (List.length_take_le' _ _) (sortU_len ms))) (by omega)) i4
    refine ⟨_, _, rfl, .inl hb, some (.z (dT m)), s3', s4', ?_, i4'⟩
    have : (sortU ms).take (q ++ [dT m]).length = (sortU ms).take q.length ++ [m] := by
      rw [List.length_append, List.length_singleton, List.take_add_one, List.getElem?_eq_getElem hlt, hm]
      rfl
    rw [this, List.filter_append]
    cases hq : p m <;> simp [hq]
  rw [List.length_map, List.take_length] at h2
  subst h2
  refine fn_rt (e := [some (.z (LT ms)), none, s2, s3, s4]) rfl ?_
  have e1 : (sSet 1 (sTake hLst sNil)) [some (.z (LT ms)), none, none, none, none] = some (.nx [some (.z (LT ms)), some (.lst []), none, none, none]) := by simp
  have e2 : (sFor (sO oSortSet (sCons true (sVar 0) sNil)) (gmName 2) B) [some (.z (LT ms)), some (.lst []), none, none, none] = some (.nx [some (.z (LT ms)), some (.lst (((sortU ms).filter p).map fun v => .z (dT v))), s2, s3, s4]) := by
    have hS := oSortSet_ev [some (.z (LT ms)), some (.lst []), none, none, none] ms (.t (.z (LT ms))) (.z (LT ms)) rfl rfl hs hne
    rw [sFor_ap]
    simp only [sO_ap, sCons_ap, sVar_ap, List.getElem?_cons_zero, sNil_ap, Bool.true_or, if_true, hS, T.els, T.elsL, zs_mapz]
    exact h1
  exact (sSeq_nx e1).trans ((sSeq_nx e2).trans rfl)
end DL

namespace DL
open PySem PySem.Spec PyProof.Rows L2
/-! ### limits -/
def a1 (l x : Int) : Bool := decide (l < 0) || decide (x ≤ l)
def w1 (a b : Int) : Bool := decide (b < 0) || (decide (0 ≤ a) && decide (a ≤ b))
def lesI (a b : Int) : Int := if a < 0 then b else if b < 0 then a else if b < a then b else a
def admL (l x : List Int) : Bool := (List.range l.length).all fun k => a1 (l.getD k 0) (x.getD k 0)
def winL (a b : List Int) : Bool := (List.range a.length).all fun k => w1 (a.getD k 0) (b.getD k 0)
def lmeet (a b : List Int) : List Int := (List.range a.length).map fun k => lesI (a.getD k 0) (b.getD k 0)
theorem lmeet_len (a b : List Int) : (lmeet a b).length = a.length := by simp [lmeet]
theorem lmeet_get (a b : List Int) (k : Nat) (h : k < a.length) : (lmeet a b).getD k 0 = lesI (a.getD k 0) (b.getD k 0) := by simp [lmeet, h]
theorem admL_iff {l x : List Int} : admL l x = true ↔ ∀ k, k < l.length → a1 (l.getD k 0) (x.getD k 0) = true := by simp [admL]
theorem winL_iff {a b : List Int} : winL a b = true ↔ ∀ k, k < a.length → w1 (a.getD k 0) (b.getD k 0) = true := by simp [winL]
theorem a1_iff {l x : Int} : a1 l x = true ↔ l < 0 ∨ x ≤ l := by simp [a1]
theorem w1_iff {a b : Int} : w1 a b = true ↔ b < 0 ∨ (0 ≤ a ∧ a ≤ b) := by simp [w1]
/-- a limit of size n -/
def Lim (n : Nat) (l : List Int) : Prop := l.length = n ∧ ∀ x ∈ l, -1 ≤ x
theorem Lim.get {n : Nat} {l : List Int} (h : Lim n l) {k : Nat} (hk : k < n) : -1 ≤ l.getD k 0 := by
  have hk' : k < l.length := by rw [h.1]; exact hk
  have := h.2 l[k] (List.getElem_mem hk')
  simpa [hk'] using this
theorem win_refl (a : List Int) : winL a a = true := winL_iff.mpr fun k _ => w1_iff.mpr (by omega)
theorem win_trans {n : Nat} {a b c : List Int} (ha : a.length = n) (hb : b.length = n) (h1 : winL a b = true) (h2 : winL b c = true) : winL a c = true := winL_iff.mpr fun k hk => by
  have x := w1_iff.mp (winL_iff.mp h1 k hk)
  have y := w1_iff.mp (winL_iff.mp h2 k (by omega))
  exact w1_iff.mpr (by omega)
theorem win_anti {n : Nat} {a b : List Int} (ha : Lim n a) (hb : Lim n b) (h1 : winL a b = true) (h2 : winL b a = true) : a = b := by
  apply List.ext_getElem (by rw [ha.1, hb.1])
  intro k h3 h4
  have x := w1_iff.mp (winL_iff.mp h1 k h3)
  have y := w1_iff.mp (winL_iff.mp h2 k h4)
  have z1 := ha.get (k := k) (by rw [← ha.1]; exact h3)
  have z2 := hb.get (k := k) (by rw [← ha.1]; exact h3)
  simp only [List.getD_eq_getElem?_getD, List.getElem?_eq_getElem h3, List.getElem?_eq_getElem h4, Option.getD_some] at x y z1 z2
  omega
theorem adm_win {n : Nat} {a b x : List Int} (ha : a.length = n) (hb : b.length = n) (h1 : winL a b = true) (h2 : admL a x = true) : admL b x = true := admL_iff.mpr fun k hk => by
  have p := w1_iff.mp (winL_iff.mp h1 k (by omega))
  have q := a1_iff.mp (admL_iff.mp h2 k (by omega))
  exact a1_iff.mpr (by omega)
theorem adm_meet {n : Nat} {a b x : List Int} (ha : a.length = n) (hb : b.length = n) : admL (lmeet a b) x = (admL a x && admL b x) := by
  rw [Bool.eq_iff_iff, Bool.and_eq_true, admL_iff, admL_iff, admL_iff, lmeet_len]
  constructor
  · intro h
    refine ⟨fun k hk => ?_, fun k hk => ?_⟩ <;>
    · have z := h k (by omega)
      rw [lmeet_get a b k (by omega), a1_iff] at z
      rw [a1_iff]
      unfold lesI at z
      split at z
      · first | omega | skip
      · split at z
        · omega
        · split at z <;> omega
  · rintro ⟨h1, h2⟩ k hk
    have p := a1_iff.mp (h1 k hk)
    have q := a1_iff.mp (h2 k (by omega))
    rw [lmeet_get a b k hk, a1_iff]
    unfold lesI
    split
    · omega
    · split
      · omega
      · split <;> omega
theorem win_meet1 {n : Nat} {a b : List Int} (ha : Lim n a) (hb : Lim n b) : winL (lmeet a b) a = true := winL_iff.mpr fun k hk => by
  rw [lmeet_len] at hk
  rw [lmeet_get a b k hk, w1_iff]
  unfold lesI
  split
  · omega
  · split
    · omega
    · split <;> omega
theorem win_meet2 {n : Nat} {a b : List Int} (ha : Lim n a) (hb : Lim n b) : winL (lmeet a b) b = true := winL_iff.mpr fun k hk => by
  rw [lmeet_len] at hk
  rw [lmeet_get a b k hk, w1_iff]
  unfold lesI
  split
  · omega
  · split
    · omega
    · split <;> omega
theorem lim_meet {n : Nat} {a b : List Int} (ha : Lim n a) (hb : Lim n b) : Lim n (lmeet a b) := by
  refine ⟨by rw [lmeet_len, ha.1], fun x hx => ?_⟩
  simp only [lmeet, List.mem_map, List.mem_range] at hx
  obtain ⟨k, hk, rfl⟩ := hx
  have z1 := ha.get (k := k) (by rw [← ha.1]; exact hk)
  have z2 := hb.get (k := k) (by rw [← ha.1]; exact hk)
  unfold lesI
  split
  · exact z2
  · split
    · exact z1
    · split <;> assumption
/-! ### their readings -/
def ix (i j : Nat) : EM Opd := (sO oIx (sCons true (sVar i) (sCons true (sVar j) sNil)))
theorem ix02 (a b : List Int) (k : Nat) (h : k < a.length) : ix 0 2 [some (.z (dT a)), some (.z (dT b)), some (iT k)] = some (.ok (.t (iT (a.getD k 0))) [some (.z (dT a)), some (.z (dT b)), some (iT k)]) := by
  unfold ix
  simp [h]
theorem ix12 (a b : List Int) (k : Nat) (h : k < b.length) : ix 1 2 [some (.z (dT a)), some (.z (dT b)), some (iT k)] = some (.ok (.t (iT (b.getD k 0))) [some (.z (dT a)), some (.z (dT b)), some (iT k)]) := by
  unfold ix
  simp [h]
section
variable {env : En} {fa fb : EM Opd} {i j : Int} {p : Bool} (a : fa env = some (.ok (.t (iT i)) env)) (b : fb env = some (.ok (.t (iT j)) env))
include a b
theorem tGt : sTb (sO oGt (sCons p fa (sCons true fb sNil))) env = some (.ok (decide (j < i)) env) := by simp [a, b]
theorem tLt : sTb (sO oLt (sCons p fa (sCons true fb sNil))) env = some (.ok (decide (i < j)) env) := by simp [a, b]
theorem tGe : sTb (sO oGe (sCons p fa (sCons true fb sNil))) env = some (.ok (decide (j ≤ i)) env) := by simp [a, b]
theorem tEq : sTb (sO (oS gEq) (sCons p fa (sCons true fb sNil))) env = some (.ok (decide (i = j)) env) := by simp [a, b]
theorem tNe : sTb (sO (oS gNe) (sCons p fa (sCons true fb sNil))) env = some (.ok (!decide (i = j)) env) := by simp [a, b]
end
theorem tAnd {ta tb : EM Bool} {env : En} {x y : Bool} (a : ta env = some (.ok x env)) (b : tb env = some (.ok y env)) : sAnd ta tb env = some (.ok (x && y) env) := by
  rw [sAnd_ap, a]
  cases x
  · rfl
  · exact b
theorem tOr {ta tb : EM Bool} {env : En} {x y : Bool} (a : ta env = some (.ok x env)) (b : tb env = some (.ok y env)) : sOr ta tb env = some (.ok (x || y) env) := by
  rw [sOr_ap, a]
  cases x
  · exact b
  · rfl
def tAdmP : EM Bool := (sAnd (sTb (sO (oS gNe) (sCons true (ix 0 2) (sCons true (sC (.int (-1))) sNil)))) (sTb (sO oGt (sCons true (ix 1 2) (sCons true (ix 0 2) sNil)))))
def tAdmL : EM Bool := (sAnd (sTb (sO oGe (sCons true (ix 0 2) (sCons true (sC (.int 0)) sNil)))) (sTb (sO oGt (sCons true (ix 1 2) (sCons true (ix 0 2) sNil)))))
def tWinP : EM Bool := (sAnd (sTb (sO (oS gNe) (sCons true (ix 1 2) (sCons true (sC (.int (-1))) sNil)))) (sOr (sTb (sO (oS gEq) (sCons true (ix 0 2) (sCons true (sC (.int (-1))) sNil)))) (sTb (sO oGt (sCons true (ix 0 2) (sCons true (ix 1 2) sNil))))))
def tWinL : EM Bool := (sAnd (sTb (sO oGe (sCons true (ix 1 2) (sCons true (sC (.int 0)) sNil)))) (sOr (sTb (sO oLt (sCons true (ix 0 2) (sCons true (sC (.int 0)) sNil)))) (sTb (sO oGt (sCons true (ix 0 2) (sCons true (ix 1 2) sNil))))))
theorem admP_ev {n : Nat} (l x : List Int) (hl : Lim n l) (hx : x.length = n) (hn : n < 10000) : fnOf 2 3 [] (gAllIx tAdmP) [.z (dT l), .z (dT x)] = some (.rt (bT (admL l x)) []) := by
  refine allIx_ev tAdmP l x (fun k => a1 (l.getD k 0) (x.getD k 0)) (by rw [hl.1]; omega) fun k hk => ?_
  have hk2 : k < x.length := by rw [hx, ← hl.1]; exact hk
  have := hl.get (k := k) (by rw [← hl.1]; exact hk)
  refine (tAnd (tNe (ix02 l x k hk) rfl) (tGt (ix12 l x k hk2) (ix02 l x k hk))).trans ?_
  congr 2
  rw [Bool.eq_iff_iff]
  simp [a1, -List.getD_eq_getElem?_getD]
  omega
theorem admL_ev {n : Nat} (l x : List Int) (hl : l.length = n) (hx : x.length = n) (hn : n < 10000) : fnOf 2 3 [] (gAllIx tAdmL) [.z (dT l), .z (dT x)] = some (.rt (bT (admL l x)) []) := by
  refine allIx_ev tAdmL l x (fun k => a1 (l.getD k 0) (x.getD k 0)) (by omega) fun k hk => ?_
  have hk2 : k < x.length := by omega
  refine (tAnd (tGe (ix02 l x k hk) rfl) (tGt (ix12 l x k hk2) (ix02 l x k hk))).trans ?_
  congr 2
  rw [Bool.eq_iff_iff]
  simp [a1]
theorem winP_ev {n : Nat} (a b : List Int) (ha : Lim n a) (hb : Lim n b) (hn : n < 10000) : fnOf 2 3 [] (gAllIx tWinP) [.z (dT a), .z (dT b)] = some (.rt (bT (winL a b)) []) := by
  refine allIx_ev tWinP a b (fun k => w1 (a.getD k 0) (b.getD k 0)) (by rw [ha.1]; omega) fun k hk => ?_
  have hk2 : k < b.length := by rw [hb.1, ← ha.1]; exact hk
  have z1 := ha.get (k := k) (by rw [← ha.1]; exact hk)
  have z2 := hb.get (k := k) (by rw [← ha.1]; exact hk)
  refine (tAnd (tNe (ix12 a b k hk2) rfl) (tOr (tEq (ix02 a b k hk) rfl) (tGt (ix02 a b k hk) (ix12 a b k hk2)))).trans ?_
  congr 2
  rw [Bool.eq_iff_iff]
  simp [w1, -List.getD_eq_getElem?_getD]
  omega
theorem winL_ev {n : Nat} (a b : List Int) (ha : a.length = n) (hb : b.length = n) (hn : n < 10000) : fnOf 2 3 [] (gAllIx tWinL) [.z (dT a), .z (dT b)] = some (.rt (bT (winL a b)) []) := by
  refine allIx_ev tWinL a b (fun k => w1 (a.getD k 0) (b.getD k 0)) (by omega) fun k hk => ?_
  have hk2 : k < b.length := by omega
  refine (tAnd (tGe (ix12 a b k hk2) rfl) (tOr (tLt (ix02 a b k hk) rfl) (tGt (ix02 a b k hk) (ix12 a b k hk2)))).trans ?_
  congr 2
  rw [Bool.eq_iff_iff]
  simp [w1, -List.getD_eq_getElem?_getD]
  try omega
end DL

namespace DL
open PySem PySem.Spec PyProof.Rows L2
noncomputable abbrev FWinP : FSem := fnOf 2 3 [] (gAllIx tWinP)
noncomputable abbrev FWinL : FSem := fnOf 2 3 [] (gAllIx tWinL)
noncomputable abbrev FAdmP : FSem := fnOf 2 3 [] (gAllIx tAdmP)
noncomputable abbrev FAdmL : FSem := fnOf 2 3 [] (gAllIx tAdmL)
/-! ### frame_of -/
noncomputable def gFrI (F : FSem) : SM := (sIfS (sAnd (sTb (sO (oS gNe) (sCons true (sVar 4) (sCons true (sVar 2) sNil)))) (sTr (sCallL 2 F (sCons true (sVar 2) (sCons true (sVar 4) sNil)))))
        (sSet 3 (sC (.bl false)))
        sNext)
noncomputable def gFrB (F : FSem) : SM := (sSeq (sSet 3 (sC (.bl true)))
    (sSeq (sForN 0 (gmName 4) (gFrI F))
    (sIfS (sTr (sVar 3))
      (sApp 1 (sVar 2))
      sNext)))
theorem frI_loop (s0 s1 : Option T) (n : Nat) (hn : n < 10000) (m : List Int) (hm : Lim n m) : ∀ (ms : List (List Int)) (b : Bool) (o : Option T), (∀ f ∈ ms, Lim n f) → ∃ o', forF (gmName 4) (gFrI FWinP) (ms.map dT) [s0, s1, some (.z (dT m)), some (bT b), o] = some (.nx [s0, s1, some (.z (dT m)), some (bT (b && topB winL ms m)), o'])
  | [], b, o, _ => ⟨o, by simp [forF, topB]⟩
  | f :: ms, b, o, hl => by
    have hF : FWinP _ = _ := winP_ev m f hm (hl f List.mem_cons_self) hn
    have e : gFrI FWinP [s0, s1, some (.z (dT m)), some (bT b), some (.z (dT f))] = some (.nx [s0, s1, some (.z (dT m)), some (bT (b && !(decide (f ≠ m) && winL m f))), some (.z (dT f))]) := by
      unfold gFrI
      by_cases h : f = m
      · simp [h]
      · cases hw : winL m f <;> rw [hw] at hF <;> simp [h, hF]
    obtain ⟨o', ih⟩ := frI_loop s0 s1 n hn m hm ms (b && !(decide (f ≠ m) && winL m f)) (some (.z (dT f))) fun z hz => hl z (List.mem_cons_of_mem _ hz)
    refine ⟨o', ?_⟩
    have st : forF (gmName 4) (gFrI FWinP) ((f :: ms).map dT) [s0, s1, some (.z (dT m)), some (bT b), o] = (match gFrI FWinP [s0, s1, some (.z (dT m)), some (bT b), some (.z (dT f))] with
      | some (.nx e) => forF (gmName 4) (gFrI FWinP) (ms.map dT) e
      | some (.ct e) => forF (gmName 4) (gFrI FWinP) (ms.map dT) e
      | some (.bk e) => some (.nx e)
      | o => o) := rfl
    rw [st, e]
    refine ih.trans ?_
    unfold topB
    rw [List.all_cons, Bool.and_assoc]
noncomputable def gFr (F : FSem) : SM := (sSeq (sSet 1 (sTake hLst sNil)) (sSeq (sFor (sO oSortSet (sCons true (sVar 0) sNil)) (gmName 2) (gFrB F)) (sRet (sVar 1))))
theorem frame_ev (ms : List (List Int)) (n : Nat) (hn : n < 10000) (h0 : 0 < n) (hl : ∀ m ∈ ms, Lim n m) (hs : ms.length < 64) : fnOf 1 5 [] (gFr FWinP) [.z (LT ms)] = some (.rt (.lst ((topL winL ms).map fun v => .z (dT v))) []) := by
  refine gather_ev (gFrB FWinP) ms (topB winL ms) n h0 (fun m hm => (hl m hm).1) hs (fun _ => True) trivial fun fs m s3 s4 hm hf _ => ?_
  have hlen : fs.length < sizeLine := Nat.lt_trans hf sizeLine_val
  obtain ⟨o', hloop⟩ := frI_loop (some (.z (LT ms))) (some (.lst (fs.map fun v => .z (dT v)))) n hn m (hl m hm) ms true s4 hl
  rw [Bool.true_and] at hloop
  refine ⟨some (bT (topB winL ms m)), o', ?_, trivial⟩
  have e1 : (sSet 3 (sC (.bl true))) [some (.z (LT ms)), some (.lst (fs.map fun v => .z (dT v))), some (.z (dT m)), s3, s4] = some (.nx [some (.z (LT ms)), some (.lst (fs.map fun v => .z (dT v))), some (.z (dT m)), some (bT true), s4]) := rfl
  have e2 : (sForN 0 (gmName 4) (gFrI FWinP)) [some (.z (LT ms)), some (.lst (fs.map fun v => .z (dT v))), some (.z (dT m)), some (bT true), s4] = some (.nx [some (.z (LT ms)), some (.lst (fs.map fun v => .z (dT v))), some (.z (dT m)), some (bT (topB winL ms m)), o']) := hloop
  unfold gFrB
  rw [sSeq_nx e1, sSeq_nx e2]
  cases topB winL ms m
  · simp
  · simp [hlen]
theorem great_ev (ms : List (List Int)) (n : Nat) (hn : n < 10000) (h0 : 0 < n) (hl : ∀ m ∈ ms, m.length = n) (hs : ms.length < 64) : fnOf 1 5 [] (gLeast FWinL) [.z (LT ms)] = some (.rt (.lst ((topL winL ms).map fun v => .z (dT v))) []) := by
  refine gather_ev (gLeastB FWinL) ms (topB winL ms) n h0 hl hs (fun o => o = none) rfl fun fs m s3 s4 hm hf h4 => ?_
  subst h4
  exact lawTopB_ev winL FWinL n (fun a b ha hb => winL_ev a b ha hb hn) ms fs m s3 (hl m hm) hl (by omega) hf
/-! ### in_frame, admitted, held -/
noncomputable def tIn (F : FSem) : EM Bool := (sTr (sCallL 2 F (sCons true (sVar 2) (sCons true (sVar 1) sNil))))
noncomputable def tHe (F : FSem) : EM Bool := (sTr (sCallL 2 F (sCons true (sVar 1) (sCons true (sVar 2) sNil))))
def admS (ms : List (List Int)) (x : List Int) : Bool := ms.any fun l => admL l x
def heldS (ms : List (List Int)) (x : List Int) : Bool := ms.any fun l => winL x l
theorem inP_ev (ms : List (List Int)) (x : List Int) {n : Nat} (hn : n < 10000) (hl : ∀ m ∈ ms, Lim n m) (hx : x.length = n) : fnOf 2 3 [] (gAnyIt (tIn FAdmP)) [.z (LT ms), .z (dT x)] = some (.rt (bT (admS ms x)) []) :=
  anyIt_ev (tIn FAdmP) ms x (fun l => admL l x) fun m hm => by
    have hF : FAdmP _ = _ := admP_ev m x (hl m hm) hx hn
    unfold tIn
    simp [hF]
theorem inL_ev (ms : List (List Int)) (x : List Int) {n : Nat} (hn : n < 10000) (hl : ∀ m ∈ ms, m.length = n) (hx : x.length = n) : fnOf 2 3 [] (gAnyIt (tIn FAdmL)) [.z (LT ms), .z (dT x)] = some (.rt (bT (admS ms x)) []) :=
  anyIt_ev (tIn FAdmL) ms x (fun l => admL l x) fun m hm => by
    have hF : FAdmL _ = _ := admL_ev m x (hl m hm) hx hn
    unfold tIn
    simp [hF]
theorem held_ev (ms : List (List Int)) (x : List Int) {n : Nat} (hn : n < 10000) (hl : ∀ m ∈ ms, m.length = n) (hx : x.length = n) : fnOf 2 3 [] (gAnyIt (tHe FWinL)) [.z (LT ms), .z (dT x)] = some (.rt (bT (heldS ms x)) []) :=
  anyIt_ev (tHe FWinL) ms x (fun l => winL x l) fun m hm => by
    have hF : FWinL _ = _ := winL_ev x m hx (hl m hm) hn
    unfold tHe
    simp [hF]
/-! ### lesser, limit_meet, frame_meet -/
noncomputable def gLesP : SM :=
  (sSeq (sIfS (sTb (sO (oS gEq) (sCons true (sVar 0) (sCons true (sC (.int (-1))) sNil))))
    (sRet (sVar 1))
    sNext)
  (sSeq (sIfS (sTb (sO (oS gEq) (sCons true (sVar 1) (sCons true (sC (.int (-1))) sNil))))
    (sRet (sVar 0))
    sNext)
  (sRet (sO oMin2 (sCons true (sVar 0) (sCons true (sVar 1) sNil))))))
noncomputable def gLesL : SM :=
  (sSeq (sIfS (sTb (sO oLt (sCons true (sVar 0) (sCons true (sC (.int 0)) sNil))))
    (sRet (sVar 1))
    sNext)
  (sSeq (sIfS (sTb (sO oLt (sCons true (sVar 1) (sCons true (sC (.int 0)) sNil))))
    (sRet (sVar 0))
    sNext)
  (sRet (sO oMin2 (sCons true (sVar 0) (sCons true (sVar 1) sNil))))))
theorem lesP_ev (a b : Int) (ha : -1 ≤ a) (hb : -1 ≤ b) : fnOf 2 2 [] gLesP [iT a, iT b] = some (.rt (iT (lesI a b)) []) := by
  unfold gLesP lesI
  by_cases h1 : a = -1
  · subst h1
    simp [fnOf_ap]
  · have h1' : ¬ a < 0 := by omega
    by_cases h2 : b = -1
    · subst h2
      simp [fnOf_ap, h1, h1']
    · have h2' : ¬ b < 0 := by omega
      simp [fnOf_ap, h1, h1', h2, h2']
theorem lesL_ev (a b : Int) : fnOf 2 2 [] gLesL [iT a, iT b] = some (.rt (iT (lesI a b)) []) := by
  unfold gLesL lesI
  by_cases h1 : a < 0
  · simp [fnOf_ap, h1]
  · by_cases h2 : b < 0
    · simp [fnOf_ap, h1, h2]
    · simp [fnOf_ap, h1, h2]
noncomputable abbrev FLesP : FSem := fnOf 2 2 [] gLesP
noncomputable abbrev FLesL : FSem := fnOf 2 2 [] gLesL
noncomputable def gLMeet : SM := (sRet (sO oTupOf (sCons true (sLcR [2] gRng1 (sCons true (sO (oS gLen) (sCons true (sVar 0) sNil)) sNil) (gmName 2) sYes (sCallL 2 FLesP (sCons true (ix 0 2) (sCons true (ix 1 2) sNil)))) sNil)))
theorem lmeet_comp {n : Nat} (a b : List Int) (ha : Lim n a) (hb : Lim n b) (hn : n < 10000) : compF [2] (gmName 2) sYes (sCallL 2 FLesP (sCons true (ix 0 2) (sCons true (ix 1 2) sNil))) (rngD 0 a.length) [some (.z (dT a)), some (.z (dT b)), none] [] = some ((lmeet a b).map iT, [some (.z (dT a)), some (.z (dT b)), none]) := by
  have e := compF_map (own := [2]) (s := gmName 2) (fe := (sCallL 2 FLesP (sCons true (ix 0 2) (sCons true (ix 1 2) sNil)))) (fun k : Nat => D.int (0 + (k : Int))) (fun k : Nat => iT (lesI (a.getD k 0) (b.getD k 0))) (env := [some (.z (dT a)), some (.z (dT b)), none]) (List.range a.length) (by simp [ha.1, hn]) fun k hk => by
    have hk := List.mem_range.mp hk
    have hk2 : k < b.length := by rw [hb.1, ← ha.1]; exact hk
    have z1 := ha.get (k := k) (by rw [← ha.1]; exact hk)
    have z2 := hb.get (k := k) (by rw [← ha.1]; exact hk)
    have hF : FLesP _ = _ := lesP_ev _ _ z1 z2
    refine ⟨[some (.z (dT a)), some (.z (dT b)), some (iT k)], .t (iT (lesI (a.getD k 0) (b.getD k 0))), [some (.z (dT a)), some (.z (dT b)), some (iT k)], [some (.z (dT a)), some (.z (dT b)), some (iT k)], ?_, ?_, rfl, rfl⟩
    · rw [Int.zero_add]
      rfl
    · rw [sCallL_ap, sCons_ap, ix02 a b k hk]
      simp only [sCons_ap, ix12 a b k hk2, sNil_ap, Bool.true_or, if_true, rds, Opd.rd, T.er, List.length_cons, List.length_nil, List.map_cons, List.map_nil]
      rw [hF]
      rfl
  rw [rngD_map, e]
  simp [lmeet]
theorem limitMeet_ev {n : Nat} (a b : List Int) (ha : Lim n a) (hb : Lim n b) (hn : n < 10000) : fnOf 2 3 [] gLMeet [.z (dT a), .z (dT b)] = some (.rt (.z (dT (lmeet a b))) []) := by
  refine fn_rt (e := [some (.z (dT a)), some (.z (dT b)), none]) rfl ?_
  unfold gLMeet
  have hg := gRng1_ev a.length (by rw [ha.1]; omega)
  have e := lmeet_comp a b ha hb hn
  simp [-gRng1, hg, e]
noncomputable abbrev FLMeet : FSem := fnOf 2 3 [] gLMeet
noncomputable abbrev FFr : FSem := fnOf 1 5 [] (gFr FWinP)
def meets (A B : List (List Int)) : List (List Int) := (A.map fun a => B.map fun b => lmeet a b).flatten
theorem mem_meets {A B : List (List Int)} {m : List Int} : m ∈ meets A B ↔ ∃ a ∈ A, ∃ b ∈ B, m = lmeet a b := by
  simp only [meets, List.mem_flatten, List.mem_map]
  constructor
  · rintro ⟨l, ⟨a, ha, rfl⟩, h⟩
    obtain ⟨b, hb, rfl⟩ := List.mem_map.mp h
    exact ⟨a, ha, b, hb, rfl⟩
  · rintro ⟨a, ha, b, hb, rfl⟩
    exact ⟨_, ⟨a, ha, rfl⟩, List.mem_map.mpr ⟨b, hb, rfl⟩⟩
theorem meets_len (A B : List (List Int)) : (meets A B).length = A.length * B.length := by
  induction A with
  | nil => simp [meets]
  | cons a A ih =>
    have : meets (a :: A) B = (B.map fun b => lmeet a b) ++ meets A B := rfl
    rw [this, List.length_append, ih, List.length_map, List.length_cons, Nat.succ_mul]
    omega
theorem fmI_ev (dA : D) (a : List Int) (B : List (List Int)) (n : Nat) (hn : n < 10000) (ha : Lim n a) (hB : ∀ b ∈ B, Lim n b) (fs : List (List Int)) (o : Option T) (hs : fs.length + B.length < 10000) :
    ∃ o', sForN 1 (gmName 4) (gMeetB FLMeet) [some (.z dA), some (.z (LT B)), some (.lst (fs.map fun v => .z (dT v))), some (.z (dT a)), o] = some (.nx [some (.z dA), some (.z (LT B)), some (.lst ((fs ++ B.map fun b => lmeet a b).map fun v => .z (dT v))), some (.z (dT a)), o']) := by
  have go : ∀ (B' : List (List Int)) (fs : List (List Int)) (o : Option T), (∀ b ∈ B', Lim n b) → fs.length + B'.length < 10000 → ∃ o', forF (gmName 4) (gMeetB FLMeet) (B'.map dT) [some (.z dA), some (.z (LT B)), some (.lst (fs.map fun v => .z (dT v))), some (.z (dT a)), o] = some (.nx [some (.z dA), some (.z (LT B)), some (.lst ((fs ++ B'.map fun b => lmeet a b).map fun v => .z (dT v))), some (.z (dT a)), o']) := by
    intro B'
    induction B' with
    | nil => intro fs o _ _; exact ⟨o, by simp [forF]⟩
    | cons b B' ih =>
      intro fs o hb hs
      have hlen : fs.length < sizeLine := by
        have := sizeLine_val
        simp at hs
        omega
      have hF : FLMeet _ = _ := limitMeet_ev a b ha (hb b List.mem_cons_self) hn
      have hi := dT_imm (lmeet a b)
      have e : gMeetB FLMeet [some (.z dA), some (.z (LT B)), some (.lst (fs.map fun v => .z (dT v))), some (.z (dT a)), some (.z (dT b))] = some (.nx [some (.z dA), some (.z (LT B)), some (.lst ((fs ++ [lmeet a b]).map fun v => .z (dT v))), some (.z (dT a)), some (.z (dT b))]) := by
        unfold gMeetB
        simp [hF, hi, hlen]
      obtain ⟨o', ih⟩ := ih (fs ++ [lmeet a b]) (some (.z (dT b))) (fun z hz => hb z (List.mem_cons_of_mem _ hz)) (by simp at hs ⊢; omega)
      refine ⟨o', ?_⟩
      have st : forF (gmName 4) (gMeetB FLMeet) ((b :: B').map dT) [some (.z dA), some (.z (LT B)), some (.lst (fs.map fun v => .z (dT v))), some (.z (dT a)), o] = (match gMeetB FLMeet [some (.z dA), some (.z (LT B)), some (.lst (fs.map fun v => .z (dT v))), some (.z (dT a)), some (.z (dT b))] with
        | some (.nx e) => forF (gmName 4) (gMeetB FLMeet) (B'.map dT) e
        | some (.ct e) => forF (gmName 4) (gMeetB FLMeet) (B'.map dT) e
        | some (.bk e) => some (.nx e)
        | o => o) := rfl
      rw [st, e]
      refine ih.trans ?_
      simp
  obtain ⟨o', h⟩ := go B fs o hB hs
  exact ⟨o', h⟩
theorem frameMeet_ev (A B : List (List Int)) (n : Nat) (hn : n < 10000) (h0 : 0 < n) (hA : ∀ a ∈ A, Lim n a) (hB : ∀ b ∈ B, Lim n b) (hs : A.length * B.length < 64) :
    fnOf 2 5 [] (gMeet FLMeet FFr) [.z (LT A), .z (LT B)] = some (.rt (.lst ((topL winL (meets A B)).map fun v => .z (dT v))) []) := by
  have go : ∀ (A' : List (List Int)) (fs : List (List Int)) (o o2 : Option T), (∀ a ∈ A', Lim n a) → fs.length + A'.length * B.length < 10000 → ∃ o' o2', forF (gmName 3) (sForN 1 (gmName 4) (gMeetB FLMeet)) (A'.map dT) [some (.z (LT A)), some (.z (LT B)), some (.lst (fs.map fun v => .z (dT v))), o, o2] = some (.nx [some (.z (LT A)), some (.z (LT B)), some (.lst ((fs ++ meets A' B).map fun v => .z (dT v))), o', o2']) := by
    intro A'
    induction A' with
    | nil => intro fs o o2 _ _; exact ⟨o, o2, by simp [forF, meets]⟩
    | cons a A' ih =>
      intro fs o o2 ha hs
      rw [List.length_cons, Nat.succ_mul] at hs
      obtain ⟨o1, e⟩ := fmI_ev (LT A) a B n hn (ha a List.mem_cons_self) hB fs o2 (by omega)
      obtain ⟨o', o2', ih⟩ := ih (fs ++ B.map fun b => lmeet a b) (some (.z (dT a))) o1 (fun z hz => ha z (List.mem_cons_of_mem _ hz)) (by simp; omega)
      refine ⟨o', o2', ?_⟩
      have st : forF (gmName 3) (sForN 1 (gmName 4) (gMeetB FLMeet)) ((a :: A').map dT) [some (.z (LT A)), some (.z (LT B)), some (.lst (fs.map fun v => .z (dT v))), o, o2] = (match sForN 1 (gmName 4) (gMeetB FLMeet) [some (.z (LT A)), some (.z (LT B)), some (.lst (fs.map fun v => .z (dT v))), some (.z (dT a)), o2] with
        | some (.nx e) => forF (gmName 3) (sForN 1 (gmName 4) (gMeetB FLMeet)) (A'.map dT) e
        | some (.ct e) => forF (gmName 3) (sForN 1 (gmName 4) (gMeetB FLMeet)) (A'.map dT) e
        | some (.bk e) => some (.nx e)
        | o => o) := rfl
      rw [st, e]
      refine ih.trans ?_
      have : meets (a :: A') B = (B.map fun b => lmeet a b) ++ meets A' B := rfl
      rw [this, List.append_assoc]
  obtain ⟨o, o2, h⟩ := go A [] none none hA (by simp; omega)
  have hjl : ∀ m ∈ meets A B, Lim n m := fun m hm => by
    obtain ⟨a, ha, b, hb, rfl⟩ := mem_meets.mp hm
    exact lim_meet (hA a ha) (hB b hb)
  have hF : FFr _ = _ := frame_ev (meets A B) n hn h0 hjl (by rw [meets_len]; exact hs)
  refine fn_rt (e := [some (.z (LT A)), some (.z (LT B)), some (.lst ((meets A B).map fun v => .z (dT v))), o, o2]) rfl ?_
  have e1 : (sSet 2 (sTake hLst sNil)) [some (.z (LT A)), some (.z (LT B)), none, none, none] = some (.nx [some (.z (LT A)), some (.z (LT B)), some (.lst (([] : List (List Int)).map fun v => .z (dT v))), none, none]) := by simp
  have e2 : (sForN 0 (gmName 3) (sForN 1 (gmName 4) (gMeetB FLMeet))) [some (.z (LT A)), some (.z (LT B)), some (.lst (([] : List (List Int)).map fun v => .z (dT v))), none, none] = some (.nx [some (.z (LT A)), some (.z (LT B)), some (.lst ((meets A B).map fun v => .z (dT v))), o, o2]) := h
  have hc : (T.lst ((topL winL (meets A B)).map fun v => .z (dT v))).clean = true := by
    rw [T.clean]
    exact cleans_map _ dT_imm _
  have e3 : (sRet (sCallL 1 FFr (sCons true (sVar 2) sNil))) [some (.z (LT A)), some (.z (LT B)), some (.lst ((meets A B).map fun v => .z (dT v))), o, o2] = some (.rt (.lst ((topL winL (meets A B)).map fun v => .z (dT v))) [some (.z (LT A)), some (.z (LT B)), some (.lst ((meets A B).map fun v => .z (dT v))), o, o2]) := by
    simp [hF, hc]
  exact (sSeq_nx e1).trans ((sSeq_nx e2).trans e3)
end DL

namespace DL
open PySem PySem.Spec PyProof.Rows L2
/-! ### frame_within -/
noncomputable def gFwI (F : FSem) : SM := (sSet 3 (sOrV (sVar 3) (sCallL 2 F (sCons true (sVar 2) (sCons true (sVar 4) sNil)))))
noncomputable def gFwB (F : FSem) : SM := (sSeq (sSet 3 (sC (.bl false)))
    (sSeq (sForN 1 (gmName 4) (gFwI F))
    (sIfS (sNot (sTr (sVar 3)))
      (sRet (sC (.bl false)))
      sNext)))
noncomputable def gFw (F : FSem) : SM := (sSeq (sForN 0 (gmName 2) (gFwB F)) (sRet (sC (.bl true))))
theorem fwI_loop (s0 s1 : Option T) (n : Nat) (hn : n < 10000) (m : List Int) (hm : Lim n m) : ∀ (ms : List (List Int)) (b : Bool) (o : Option T), (∀ f ∈ ms, Lim n f) → ∃ o', forF (gmName 4) (gFwI FWinP) (ms.map dT) [s0, s1, some (.z (dT m)), some (bT b), o] = some (.nx [s0, s1, some (.z (dT m)), some (bT (b || heldS ms m)), o'])
  | [], b, o, _ => ⟨o, by simp [forF, heldS]⟩
  | f :: ms, b, o, hl => by
    have hF : FWinP _ = _ := winP_ev m f hm (hl f List.mem_cons_self) hn
    have e : gFwI FWinP [s0, s1, some (.z (dT m)), some (bT b), some (.z (dT f))] = some (.nx [s0, s1, some (.z (dT m)), some (bT (b || winL m f)), some (.z (dT f))]) := by
      unfold gFwI
      cases b <;> simp [hF]
    obtain ⟨o', ih⟩ := fwI_loop s0 s1 n hn m hm ms (b || winL m f) (some (.z (dT f))) fun z hz => hl z (List.mem_cons_of_mem _ hz)
    refine ⟨o', ?_⟩
    have st : forF (gmName 4) (gFwI FWinP) ((f :: ms).map dT) [s0, s1, some (.z (dT m)), some (bT b), o] = (match gFwI FWinP [s0, s1, some (.z (dT m)), some (bT b), some (.z (dT f))] with
      | some (.nx e) => forF (gmName 4) (gFwI FWinP) (ms.map dT) e
      | some (.ct e) => forF (gmName 4) (gFwI FWinP) (ms.map dT) e
      | some (.bk e) => some (.nx e)
      | o => o) := rfl
    rw [st, e]
    refine ih.trans ?_
    unfold heldS
    rw [List.any_cons, Bool.or_assoc]
theorem fw_ev (A B : List (List Int)) (n : Nat) (hn : n < 10000) (hA : ∀ a ∈ A, Lim n a) (hB : ∀ b ∈ B, Lim n b) : fnOf 2 5 [] (gFw FWinP) [.z (LT A), .z (LT B)] = some (.rt (bT (A.all fun a => heldS B a)) []) := by
  have go : ∀ (A' : List (List Int)) (o o3 o4 : Option T), (∀ a ∈ A', Lim n a) → ∃ e, forF (gmName 2) (gFwB FWinP) (A'.map dT) [some (.z (LT A)), some (.z (LT B)), o, o3, o4] = if (A'.all fun a => heldS B a) = true then some (.nx e) else some (.rt (bT false) e) := by
    intro A'
    induction A' with
    | nil => intro o o3 o4 _; exact ⟨_, rfl⟩
    | cons a A' ih =>
      intro o o3 o4 ha
      obtain ⟨o', hl⟩ := fwI_loop (some (.z (LT A))) (some (.z (LT B))) n hn a (ha a List.mem_cons_self) B false o4 hB
      rw [Bool.false_or] at hl
      have e : gFwB FWinP [some (.z (LT A)), some (.z (LT B)), some (.z (dT a)), o3, o4] = if heldS B a = true then some (.nx [some (.z (LT A)), some (.z (LT B)), some (.z (dT a)), some (bT true), o']) else some (.rt (bT false) [some (.z (LT A)), some (.z (LT B)), some (.z (dT a)), some (bT false), o']) := by
        unfold gFwB
        have e2 : (sForN 1 (gmName 4) (gFwI FWinP)) [some (.z (LT A)), some (.z (LT B)), some (.z (dT a)), some (bT false), o4] = some (.nx [some (.z (LT A)), some (.z (LT B)), some (.z (dT a)), some (bT (heldS B a)), o']) := hl
        rw [sSeq_nx (e := [some (.z (LT A)), some (.z (LT B)), some (.z (dT a)), some (bT false), o4]) rfl, sSeq_nx e2]
        cases heldS B a <;> simp
      have st : forF (gmName 2) (gFwB FWinP) ((a :: A').map dT) [some (.z (LT A)), some (.z (LT B)), o, o3, o4] = (match gFwB FWinP [some (.z (LT A)), some (.z (LT B)), some (.z (dT a)), o3, o4] with
        | some (.nx e) => forF (gmName 2) (gFwB FWinP) (A'.map dT) e
        | some (.ct e) => forF (gmName 2) (gFwB FWinP) (A'.map dT) e
        | some (.bk e) => some (.nx e)
        | o => o) := rfl
      rw [st, e, List.all_cons]
      cases hc : heldS B a
      · exact ⟨_, rfl⟩
      · obtain ⟨e, ih⟩ := ih (some (.z (dT a))) (some (bT true)) o' fun z hz => ha z (List.mem_cons_of_mem _ hz)
        exact ⟨e, ih⟩
  obtain ⟨e, h⟩ := go A none none none hA
  have e1 : (sForN 0 (gmName 2) (gFwB FWinP)) [some (.z (LT A)), some (.z (LT B)), none, none, none] = if (A.all fun a => heldS B a) = true then some (.nx e) else some (.rt (bT false) e) := h
  cases hc : (A.all fun a => heldS B a)
  · rw [hc] at e1
    exact fn_rt rfl (sSeq_rt e1)
  · rw [hc] at e1
    exact fn_rt rfl (sSeq_nx e1)
/-! ### limits drawn -/
noncomputable def gLimE (F : FSem) : EM Opd := (sO oSub (sCons true (sCallT 2 [true] F (sCons true (sVar 0) (sCons true (sO oAdd (sCons true (sVar 2) (sCons true (sC (.int 2)) sNil))) sNil))) (sCons true (sC (.int 1)) sNil)))
noncomputable def gLim (F : FSem) : SM := (sRet (sO oTupOf (sCons true (sLcR [3] gRng1 (sCons true (sVar 1) sNil) (gmName 3) sYes (gLimE F)) sNil)))
theorem lim_comp (n : Nat) (most : Int) (hm : 0 ≤ most) (hn : n < 10000) (xs : List Int) : ∃ (vs xs' : List Int), compF [3] (gmName 3) sYes (gLimE FTake) (rngD 0 n) [some (.lst (xs.map iT)), some (iT n), some (iT most), none] [] = some (vs.map iT, [some (.lst (xs'.map iT)), some (iT n), some (iT most), none]) ∧ Lim n vs := by
  obtain ⟨ts, e, h1, vs, xs', rfl, rfl, h2, h3⟩ := compF_inv (own := [3]) (s := gmName 3) (fc := sYes) (fe := gLimE FTake)
    (fun p acc env => ∃ vs xs' : List Int, acc = vs.map iT ∧ env = [some (.lst (xs'.map iT)), some (iT n), some (iT most), none] ∧ vs.length = p.length ∧ ∀ x ∈ vs, -1 ≤ x) (ds := rngD 0 n) (env := [some (.lst (xs.map iT)), some (iT n), some (iT most), none]) (by rw [rngD_length]; exact hn) ⟨[], xs, rfl, rfl, rfl, fun _ h => nomatch h⟩ fun p d q acc env _ _ i => by
      obtain ⟨vs, xs', rfl, rfl, hl, hd⟩ := i
      have hF := take_ev xs' (most + 2) (by omega)
      have hb := dtake_bd xs' (n := most + 2) (by omega)
      refine ⟨[some (.lst (xs'.map iT)), some (iT n), some (iT most), some (.z d)], rfl, .inl ⟨_, .t (iT ((dtake xs' (most + 2)).1 - 1)), [some (.lst ((dtake xs' (most + 2)).2.map iT)), some (iT n), some (iT most), some (.z d)], iT ((dtake xs' (most + 2)).1 - 1), _, rfl, ?_, rfl, vs ++ [(dtake xs' (most + 2)).1 - 1], (dtake xs' (most + 2)).2, by simp, rfl, by simp [hl], ?_⟩⟩
      · unfold gLimE
        simp [hF, FTake]
      · intro x hx
        rcases List.mem_append.mp hx with z | z
        · exact hd x z
        · rw [List.mem_singleton.mp z]; omega
  exact ⟨vs, xs', h1, by rw [h2, rngD_length], h3⟩
theorem lim_ev (n : Nat) (most : Int) (hm : 0 ≤ most) (hn : n < 10000) (xs : List Int) : ∃ (vs xs' : List Int), fnOf 3 4 [true] (gLim FTake) [.lst (xs.map iT), iT n, iT most] = some (.rt (.z (dT vs)) [.lst (xs'.map iT)]) ∧ Lim n vs := by
  obtain ⟨vs, xs', h1, h2⟩ := lim_comp n most hm hn xs
  refine ⟨vs, xs', fn_io (e := [some (.lst (xs'.map iT)), some (iT n), some (iT most), none]) rfl ?_ rfl, h2⟩
  unfold gLim
  have hg := gRng1_ev n (by omega)
  simp [-gRng1, hg, h1]
noncomputable abbrev FLim : FSem := fnOf 3 4 [true] (gLim FTake)
theorem lims_ev (n k : Nat) (most : Int) (hm : 0 ≤ most) (hn : n < 10000) (hk : k < 10000) (xs : List Int) : ∃ (vs : List (List Int)) (xs' : List Int), fnOf 4 5 [true] (gMarks FLim) [.lst (xs.map iT), iT n, iT k, iT most] = some (.rt (.lst (vs.map fun v => .z (dT v))) [.lst (xs'.map iT)]) ∧ vs.length = k ∧ ∀ v ∈ vs, Lim n v := by
  obtain ⟨ts, e, h1, vs, xs', rfl, rfl, h2, h3⟩ := compF_inv (own := [4]) (s := gmName 4) (fc := sYes) (fe := (sCallT 3 [true] FLim (sCons true (sVar 0) (sCons true (sVar 1) (sCons true (sVar 3) sNil)))))
    (fun p acc env => ∃ (vs : List (List Int)) (xs' : List Int), acc = vs.map (fun v => T.z (dT v)) ∧ env = [some (.lst (xs'.map iT)), some (iT n), some (iT k), some (iT most), none] ∧ vs.length = p.length ∧ ∀ v ∈ vs, Lim n v) (ds := rngD 0 k) (env := [some (.lst (xs.map iT)), some (iT n), some (iT k), some (iT most), none]) (by rw [rngD_length]; exact hk) ⟨[], xs, rfl, rfl, rfl, fun _ h => nomatch h⟩ fun p d q acc env _ _ i => by
      obtain ⟨vs, xs', rfl, rfl, hl, hd⟩ := i
      obtain ⟨v, ys, hF, b1⟩ := lim_ev n most hm hn xs'
      refine ⟨[some (.lst (xs'.map iT)), some (iT n), some (iT k), some (iT most), some (.z d)], rfl, .inl ⟨_, .t (.z (dT v)), [some (.lst (ys.map iT)), some (iT n), some (iT k), some (iT most), some (.z d)], .z (dT v), _, rfl, ?_, rfl, vs ++ [v], ys, by simp, rfl, by simp [hl], ?_⟩⟩
      · simp [hF, FLim]
      · intro x hx
        rcases List.mem_append.mp hx with z | z
        · exact hd x z
        · rw [List.mem_singleton.mp z]; exact b1
  refine ⟨vs, xs', fn_io (e := [some (.lst (xs'.map iT)), some (iT n), some (iT k), some (iT most), none]) rfl ?_ rfl, by rw [h2, rngD_length], h3⟩
  unfold gMarks
  have hg := gRng1_ev k (by omega)
  simp [-gRng1, hg, h1]
/-! ### raised -/
def rz (b x : Int) : Int := if 0 ≤ x then b + x else -1
def gRzE : EM Opd := (sIf (sTb (sO oGe (sCons true (sVar 3) (sCons true (sC (.int 0)) sNil)))) (sO oAdd (sCons true (sVar 1) (sCons true (sVar 3) sNil))) (sO (oS gNeg) (sCons true (sC (.int 1)) sNil)))
def gRzB : EM Opd := sO oTupOf (sCons true (sLcN [3] 2 (gmName 3) sYes gRzE) sNil)
def gRz : SM := (sRet (sLcN [2] 0 (gmName 2) sYes gRzB))
theorem rzE_ev (s0 s2 : Option T) (b x : Int) : gRzE [s0, some (iT b), s2, some (iT x)] = some (.ok (.t (iT (rz b x))) [s0, some (iT b), s2, some (iT x)]) := by
  unfold gRzE rz
  by_cases h : 0 ≤ x <;> simp [h]
theorem rzB_ev (d : D) (b : Int) (v : List Int) (hv : v.length < 10000) : gRzB [some (.z d), some (iT b), some (.z (dT v)), none] = some (.ok (.t (.z (dT (v.map (rz b))))) [some (.z d), some (iT b), some (.z (dT v)), none]) := by
  have h := compF_map (own := [3]) (s := gmName 3) (fe := gRzE) D.int (fun x => iT (rz b x)) (env := [some (.z d), some (iT b), some (.z (dT v)), none]) v hv fun x _ => ⟨[some (.z d), some (iT b), some (.z (dT v)), some (iT x)], .t (iT (rz b x)), [some (.z d), some (iT b), some (.z (dT v)), some (iT x)], [some (.z d), some (iT b), some (.z (dT v)), some (iT x)], rfl, rzE_ev _ _ b x, rfl, rfl⟩
  unfold gRzB
  simp [h]
theorem rz_ev (vs : List (List Int)) (b : Int) (hs : vs.length < 10000) (hv : ∀ v ∈ vs, v.length < 10000) : fnOf 2 4 [] gRz [.z (LT vs), iT b] = some (.rt (.lst ((vs.map fun v => v.map (rz b)).map fun v => .z (dT v))) []) := by
  have h := compF_map (own := [2]) (s := gmName 2) (fe := gRzB) dT (fun v => T.z (dT (v.map (rz b)))) (env := [some (.z (LT vs)), some (iT b), none, none]) vs hs fun x hx => ⟨[some (.z (LT vs)), some (iT b), some (.z (dT x)), none], .t (.z (dT (x.map (rz b)))), [some (.z (LT vs)), some (iT b), some (.z (dT x)), none], [some (.z (LT vs)), some (iT b), some (.z (dT x)), none], rfl, rzB_ev _ b x (hv x hx), rfl, rfl⟩
  refine fn_rt (e := [some (.z (LT vs)), some (iT b), none, none]) rfl ?_
  unfold gRz
  have e : sLcN [2] 0 (gmName 2) sYes gRzB [some (.z (LT vs)), some (iT b), none, none] = some (.ok (.t (.lst (vs.map fun v => T.z (dT (v.map (rz b)))))) [some (.z (LT vs)), some (iT b), none, none]) := by
    rw [sLcN_ap]
    simp only [List.getElem?_cons_zero, T.els, T.elsL, wipeE]
    have : ([some (.z (LT vs)), some (iT b), none, none] : En).set 2 none = [some (.z (LT vs)), some (iT b), none, none] := rfl
    rw [this, h]
  have e2 : sRet (sLcN [2] 0 (gmName 2) sYes gRzB) [some (.z (LT vs)), some (iT b), none, none] = some (.rt (.lst ((vs.map fun v => v.map (rz b)).map fun v => .z (dT v))) [some (.z (LT vs)), some (iT b), none, none]) := by
    rw [sRet_ap, e, List.map_map]
    rfl
  exact e2
theorem lim_rz {n : Nat} {b : Int} (hb : 0 ≤ b) {v : List Int} (h : Lim n v) : Lim n (v.map (rz b)) := by
  refine ⟨by rw [List.length_map]; exact h.1, fun x hx => ?_⟩
  obtain ⟨y, hy, rfl⟩ := List.mem_map.mp hx
  unfold rz
  split <;> omega
end DL

/-! a half's opening: draws, size, base -/
namespace DL
open PySem PySem.Spec PyProof.Rows L2
noncomputable abbrev FDraws : FSem := fnOf 2 9 [] gDraws
noncomputable abbrev FCell : FSem := fnOf 2 2 [] gCell
theorem hDraws (ns : List Int) (n : Nat) (hn : n < 10000) : ∃ xs : List Int, FDraws [.z (.kls (ns.map D.int)), iT n] = some (.rt (.lst (xs.map iT)) []) ∧ xs.length = n ∧ ∀ x ∈ xs, 0 ≤ x ∧ x < 1000 := draws_ev ns n hn
theorem hTake (xs : List Int) (n : Int) (hn : 0 < n) : FTake [.lst (xs.map iT), iT n] = some (.rt (iT (dtake xs n).1) [.lst ((dtake xs n).2.map iT)]) := take_ev xs n hn
theorem hCell (ns : List Int) (k : Nat) : FCell [.z (.kls (ns.map D.int)), iT k] = some (.rt (iT (ns.getD k 0)) []) := cell_ev ns k
theorem hMark (n : Nat) (most : Int) (hm : 0 ≤ most) (hn : n < 10000) (xs : List Int) : ∃ (vs xs' : List Int), FMark [.lst (xs.map iT), iT n, iT most] = some (.rt (.z (dT vs)) [.lst (xs'.map iT)]) ∧ vs.length = n ∧ Drawn most vs := mark_ev n most hm hn xs
theorem cl_dT (ms : List (List Int)) : (T.lst (ms.map fun v => .z (dT v))).clean = true := by
  rw [T.clean]
  exact cleans_map _ dT_imm _
theorem cl_int (xs : List Int) : (T.lst (xs.map iT)).clean = true := by
  rw [T.clean]
  exact cleans_map D.int (fun _ => rfl) _
section
variable (ns : List Int) (rest : En)
/-- the opening of a half: draws, size, base -/
theorem open1 (z : Int) (c : Nat) (hz : z = c) (hc : c < 10000) : ∃ xs : List Int, sSet 1 (sCallL 2 FDraws (sCons true (sVar 0) (sCons true (sC (.int z)) sNil))) (some (.z (.kls (ns.map D.int))) :: none :: rest) = some (.nx (some (.z (.kls (ns.map D.int))) :: some (.lst (xs.map iT)) :: rest)) := by
  subst hz
  obtain ⟨xs, h, _⟩ := hDraws ns c hc
  exact ⟨xs, by simp [h, cl_int]⟩
theorem open2 (s0 s2 : Option T) (xs : List Int) : ∃ (n : Nat) (xs' : List Int), 0 < n ∧ n < 100 ∧ sSet 2 (sO oIx (sCons false (sO oLst (sCons true (sC (.int 1)) (sCons true (sC (.int 2)) (sCons true (sC (.int 3)) (sCons true (sC (.int 4)) (sCons true (sC (.int 12)) sNil)))))) (sCons true (sCallT 2 [true] FTake (sCons true (sVar 1) (sCons true (sC (.int 5)) sNil))) sNil))) (s0 :: some (.lst (xs.map iT)) :: s2 :: rest) = some (.nx (s0 :: some (.lst (xs'.map iT)) :: some (iT n) :: rest)) := by
  have h := hTake xs 5 (by decide)
  have hb := dtake_bd xs (n := 5) (by decide)
  have h5 : 5 ≤ sizeLine := Nat.le_trans (by decide : 5 ≤ 10000) (Nat.le_of_lt sizeLine_val)
  generalize (dtake xs 5).1 = j at h hb
  have : ∃ n : Nat, 0 < n ∧ n < 100 ∧ atI [iT 1, iT 2, iT 3, iT 4, iT 12] j = some (iT n) := by
    have hj : j = 0 ∨ j = 1 ∨ j = 2 ∨ j = 3 ∨ j = 4 := by omega
    rcases hj with rfl | rfl | rfl | rfl | rfl
    · exact ⟨1, by decide, by decide, rfl⟩
    · exact ⟨2, by decide, by decide, rfl⟩
    · exact ⟨3, by decide, by decide, rfl⟩
    · exact ⟨4, by decide, by decide, rfl⟩
    · exact ⟨12, by decide, by decide, rfl⟩
  obtain ⟨n, h1, h2, h3⟩ := this
  exact ⟨n, (dtake xs 5).2, h1, h2, by simp [h, h3, h5]⟩
theorem open4 (s2 : Option T) (xs : List Int) : ∃ (b : Int) (xs' : List Int), 0 ≤ b ∧ sIfS (sTb (sO (oS gEq) (sCons true (sCallT 2 [true] FTake (sCons true (sVar 1) (sCons true (sC (.int 4)) sNil))) (sCons true (sC (.int 0)) sNil))))
    (sSet 3 (sO oMod (sCons true (sO (oS gInt) (sCons true (sCallL 2 FCell (sCons true (sVar 0) (sCons true (sC (.int 0)) sNil))) sNil)) (sCons true (sO oPow (sCons true (sC (.int 10)) (sCons true (sC (.int 30)) sNil))) sNil))))
    sNext (some (.z (.kls (ns.map D.int))) :: some (.lst (xs.map iT)) :: s2 :: some (iT 0) :: rest) = some (.nx (some (.z (.kls (ns.map D.int))) :: some (.lst (xs'.map iT)) :: s2 :: some (iT b) :: rest)) := by
  have h := hTake xs 4 (by decide)
  have hc := hCell ns 0
  rw [show ((0 : Nat) : Int) = 0 from rfl] at hc
  generalize ns.getD 0 0 = c at hc
  by_cases hj : (dtake xs 4).1 = 0
  · rw [hj] at h
    refine ⟨c % 1000000000000000000000000000000, (dtake xs 4).2, Int.emod_nonneg _ (by decide), ?_⟩
    simp [h, hc]
  · refine ⟨0, (dtake xs 4).2, by decide, ?_⟩
    simp [h, hj]
end

abbrev TL (ms : List (List Int)) : T := .lst (ms.map fun v => .z (dT v))
@[simp] theorem TL_er (ms : List (List Int)) : (TL ms).er = LT ms := by simp [TL]
@[simp] theorem ers_comp {α : Type} (f : α → D) (xs : List α) : T.ers (List.map (T.z ∘ f) xs) = xs.map f := ers_mapf f xs
@[simp] theorem zs_comp {α : Type} (f : α → D) (xs : List α) : zs (List.map (T.z ∘ f) xs) = some (xs.map f) := zs_mapz f xs
end DL

/-! DM1: nets in plain Lean: transitions, firing. -/
namespace DL
open PySem PySem.Spec PyProof.Rows L2
/-- a transition -/
structure Tr where
  t : List Int
  g : List Int
  m : List Int
abbrev Tr.d (x : Tr) : D := .tup [dT x.t, dT x.g, dT x.m]
structure Tr.Ok (n : Nat) (x : Tr) : Prop where
  lt : x.t.length = n
  lg : x.g.length = n
  lm : x.m.length = n
  bt : ∀ y ∈ x.t, 0 ≤ y ∧ y ≤ 9
  bg : ∀ y ∈ x.g, 0 ≤ y ∧ y ≤ 9
  bm : ∀ y ∈ x.m, -1 ≤ y ∧ y < n
/-- one place's tokens go where they go -/
def fstep (x : Tr) (mk : List Int) (f : List Int) (k : Nat) : List Int := if x.m.getD k 0 < 0 then f else f.set (x.m.getD k 0).toNat (f.getD (x.m.getD k 0).toNat 0 + (mk.getD k 0 - x.t.getD k 0))
def firs (x : Tr) (mk : List Int) (k : Nat) : List Int := (List.range k).foldl (fstep x mk) x.g
def firL (x : Tr) (mk : List Int) : List Int := firs x mk mk.length
theorem firs_succ (x : Tr) (mk : List Int) (k : Nat) : firs x mk (k + 1) = fstep x mk (firs x mk k) k := by
  unfold firs
  rw [List.range_succ, List.foldl_append]
  rfl
theorem fstep_len (x : Tr) (mk f : List Int) (k : Nat) : (fstep x mk f k).length = f.length := by
  unfold fstep
  split
  · rfl
  · simp
theorem firs_len (x : Tr) (mk : List Int) (k : Nat) : (firs x mk k).length = x.g.length := by
  induction k with
  | zero => rfl
  | succ k ih => rw [firs_succ, fstep_len, ih]
theorem getD_at {xs : List Int} {k : Nat} (h : k < xs.length) : xs.getD k 0 = xs[k] := by
  rw [List.getD_eq_getElem?_getD, List.getElem?_eq_getElem h]; rfl
theorem getD_mem {xs : List Int} {k : Nat} (h : k < xs.length) : xs.getD k 0 ∈ xs := by
  rw [getD_at h]; exact List.getElem_mem h
theorem cov_get : ∀ {a b : List Int}, a.length = b.length → cov a b = true → ∀ k, k < a.length → b.getD k 0 ≤ a.getD k 0
  | [], [], _, _, k, h => by simp at h
  | x :: xs, y :: ys, hl, h, k, hk => by
    simp only [cov, Bool.and_eq_true, decide_eq_true_eq] at h
    cases k with
    | zero => simpa using h.1
    | succ k => simpa using cov_get (by simpa using hl) h.2 k (by simpa using hk)
theorem firs_pos {n : Nat} {x : Tr} {mk : List Int} (ok : x.Ok n) (hl : mk.length = n) (hc : cov mk x.t = true) : ∀ k, k ≤ n → ∀ y ∈ firs x mk k, 0 ≤ y
  | 0, _, y, hy => (ok.bg y hy).1
  | k + 1, hk, y, hy => by
    have ih := firs_pos ok hl hc k (by omega)
    rw [firs_succ] at hy
    unfold fstep at hy
    split at hy
    · exact ih y hy
    · rcases List.mem_or_eq_of_mem_set hy with h | rfl
      · exact ih y h
      · have h1 := cov_get (by rw [hl, ok.lt]) hc k (by omega)
        have hm := ok.bm _ (getD_mem (k := k) (by rw [ok.lm]; omega))
        have h2 : (x.m.getD k 0).toNat < (firs x mk k).length := by rw [firs_len, ok.lg]; omega
        have h3 := ih _ (getD_mem h2)
        omega
theorem firL_len {n : Nat} {x : Tr} {mk : List Int} (ok : x.Ok n) : (firL x mk).length = n := by rw [firL, firs_len, ok.lg]
theorem firL_pos {n : Nat} {x : Tr} {mk : List Int} (ok : x.Ok n) (hl : mk.length = n) (hc : cov mk x.t = true) : ∀ y ∈ firL x mk, 0 ≤ y := firs_pos ok hl hc _ (by omega)
@[simp] theorem lkN_p {α : Type} (a b : α) : lkF "places" ["places", "transitions"] [a, b] = some a := by
  unfold lkF
  rw [if_pos (by decide)]
@[simp] theorem lkN_t {α : Type} (a b : α) : lkF "transitions" ["places", "transitions"] [a, b] = some b := by
  unfold lkF
  rw [if_neg (by decide)]
  unfold lkF
  rw [if_pos (by decide)]
/-- a net as data -/
abbrev netD (C : Addr) (n : Nat) (ts : List Tr) : D := .obj C ["places", "transitions"] [.int n, .tup (ts.map Tr.d)]
end DL

/-! DM2: exploring in plain Lean. -/
namespace DL
open PySem PySem.Spec PyProof.Rows L2
def idxM (a : List Int) : List (List Int) → Option Nat
  | [] => none
  | j :: js => if j = a then some 0 else (idxM a js).map (· + 1)
theorem idxK_M (a : List Int) : ∀ f : List (List Int), idxK (dT a) (f.map dT) = idxM a f
  | [] => rfl
  | j :: js => by
    rw [List.map_cons, idxK, keq_dT, idxK_M a js, idxM]
    by_cases h : j = a <;> simp [h]
theorem idxE_M (a : List Int) : ∀ f : List (List Int), idxE (dT a) (f.map dT) = idxM a f
  | [] => rfl
  | j :: js => by
    rw [List.map_cons, idxE, deq_dT, idxE_M a js, idxM]
    by_cases h : j = a <;> simp [h]
theorem idxM_lt {a : List Int} : ∀ {f : List (List Int)} {n : Nat}, idxM a f = some n → n < f.length
  | [], _, h => by simp [idxM] at h
  | j :: js, n, h => by
    unfold idxM at h
    split at h
    · cases h; simp
    · obtain ⟨m, h1, rfl⟩ := Option.map_eq_some_iff.mp h
      have := idxM_lt h1
      simp; exact this
theorem idxM_none {a : List Int} : ∀ {f : List (List Int)}, idxM a f = none ↔ a ∉ f
  | [] => by simp [idxM]
  | j :: js => by
    unfold idxM
    by_cases h : j = a
    · simp [h]
    · have := idxM_none (a := a) (f := js)
      simp [h, this, Ne.symm h]
theorem idxM_new {a : List Int} : ∀ {f : List (List Int)}, idxM a f = none → idxM a (f ++ [a]) = some f.length
  | [], _ => by simp [idxM]
  | j :: js, h => by
    unfold idxM at h
    split at h
    · cases h
    · rename_i hj
      rw [List.cons_append, idxM, if_neg hj, idxM_new (by simpa using h)]
      simp
def rstep (mk : List Int) (s : List (List Int) × List Int) (x : Tr) : List (List Int) × List Int :=
  if cov mk x.t = true then match idxM (firL x mk) s.1 with
    | some n => (s.1, s.2 ++ [(n : Int)])
    | none => (s.1 ++ [firL x mk], s.2 ++ [(s.1.length : Int)])
  else (s.1, s.2 ++ [-1])
def rrow (ts : List Tr) (mk : List Int) (f : List (List Int)) : List (List Int) × List Int := ts.foldl (rstep mk) (f, [])
theorem rstep_len (mk : List Int) (s : List (List Int) × List Int) (x : Tr) : s.1.length ≤ (rstep mk s x).1.length ∧ (rstep mk s x).1.length ≤ s.1.length + 1 ∧ (rstep mk s x).2.length = s.2.length + 1 := by
  unfold rstep
  split
  · split <;> simp
  · simp
theorem fold_len (mk : List Int) : ∀ (ts : List Tr) (s : List (List Int) × List Int), s.1.length ≤ (ts.foldl (rstep mk) s).1.length ∧ (ts.foldl (rstep mk) s).1.length ≤ s.1.length + ts.length ∧ (ts.foldl (rstep mk) s).2.length = s.2.length + ts.length
  | [], s => by simp
  | x :: ts, s => by
    have h := fold_len mk ts (rstep mk s x)
    have h2 := rstep_len mk s x
    rw [List.foldl_cons, List.length_cons]
    omega
theorem rrow_len (ts : List Tr) (mk : List Int) (f : List (List Int)) : f.length ≤ (rrow ts mk f).1.length ∧ (rrow ts mk f).1.length ≤ f.length + ts.length ∧ (rrow ts mk f).2.length = ts.length := by
  have := fold_len mk ts (f, [])
  simpa [rrow] using this
/-- what is kept -/
def GoodM (n : Nat) (f : List (List Int)) : Prop := ∀ v ∈ f, v.length = n ∧ ∀ y ∈ v, (0 : Int) ≤ y
theorem rstep_good {n : Nat} {mk : List Int} {s : List (List Int) × List Int} {x : Tr} (ok : x.Ok n) (hm : mk.length = n) (h : GoodM n s.1) (hr : ∀ y ∈ s.2, -1 ≤ y) : GoodM n (rstep mk s x).1 ∧ ∀ y ∈ (rstep mk s x).2, -1 ≤ y := by
  unfold rstep
  split
  · rename_i hc
    split
    · refine ⟨h, fun y hy => ?_⟩
      rcases List.mem_append.mp hy with z | z
      · exact hr y z
      · rw [List.mem_singleton.mp z]; omega
    · refine ⟨fun v hv => ?_, fun y hy => ?_⟩
      · rcases List.mem_append.mp hv with z | z
        · exact h v z
        · rw [List.mem_singleton.mp z]
          exact ⟨firL_len ok, firL_pos ok hm hc⟩
      · rcases List.mem_append.mp hy with z | z
        · exact hr y z
        · rw [List.mem_singleton.mp z]; omega
  · refine ⟨h, fun y hy => ?_⟩
    rcases List.mem_append.mp hy with z | z
    · exact hr y z
    · rw [List.mem_singleton.mp z]; omega
theorem fold_good {n : Nat} {mk : List Int} (hm : mk.length = n) : ∀ (ts : List Tr), (∀ x ∈ ts, x.Ok n) → ∀ (s : List (List Int) × List Int), GoodM n s.1 → (∀ y ∈ s.2, -1 ≤ y) → GoodM n (ts.foldl (rstep mk) s).1 ∧ ∀ y ∈ (ts.foldl (rstep mk) s).2, -1 ≤ y
  | [], _, s, h, hr => ⟨h, hr⟩
  | x :: ts, ok, s, h, hr => by
    obtain ⟨h1, h2⟩ := rstep_good (ok x List.mem_cons_self) hm h hr
    exact fold_good hm ts (fun y hy => ok y (List.mem_cons_of_mem _ hy)) (rstep mk s x) h1 h2
theorem rrow_good {n : Nat} {mk : List Int} {ts : List Tr} {f : List (List Int)} (hm : mk.length = n) (ok : ∀ x ∈ ts, x.Ok n) (h : GoodM n f) : GoodM n (rrow ts mk f).1 ∧ ∀ y ∈ (rrow ts mk f).2, -1 ≤ y := fold_good hm ts ok (f, []) h (fun _ h => nomatch h)
/-- the law's own loop -/
def lawL (ts : List Tr) (lim : Nat) : Nat → Nat → List (List Int) × List (List Int) → List (List Int) × List (List Int)
  | 0, _, s => s
  | n + 1, k, s => if k < s.1.length ∧ s.1.length ≤ lim then lawL ts lim n (k + 1) ((rrow ts (s.1.getD k []) s.1).1, s.2 ++ [(rrow ts (s.1.getD k []) s.1).2]) else lawL ts lim n (k + 1) s
theorem lawL_over (ts : List Tr) (lim : Nat) : ∀ (n k : Nat) (s : List (List Int) × List (List Int)), lim < s.1.length → lawL ts lim n k s = s
  | 0, _, _, _ => rfl
  | n + 1, k, s, h => by
    rw [lawL, if_neg (by omega)]
    exact lawL_over ts lim n (k + 1) s h
theorem lawL_done (ts : List Tr) (lim : Nat) : ∀ (n k : Nat) (s : List (List Int) × List (List Int)), s.1.length ≤ k → lawL ts lim n k s = s
  | 0, _, _, _ => rfl
  | n + 1, k, s, h => by
    rw [lawL, if_neg (by omega)]
    exact lawL_done ts lim n (k + 1) s (by omega)
/-- what the rows keep -/
def GoodR (w : Nat) (R : List (List Int)) : Prop := ∀ r ∈ R, r.length = w ∧ ∀ y ∈ r, (-1 : Int) ≤ y
theorem getD_memM {f : List (List Int)} {k : Nat} (h : k < f.length) : f.getD k [] ∈ f := by
  rw [List.getD_eq_getElem?_getD, List.getElem?_eq_getElem h]
  exact List.getElem_mem h
theorem lawL_good {n : Nat} {ts : List Tr} {lim : Nat} (ok : ∀ x ∈ ts, x.Ok n) : ∀ (m k : Nat) (s : List (List Int) × List (List Int)), GoodM n s.1 → GoodR ts.length s.2 → GoodM n (lawL ts lim m k s).1 ∧ GoodR ts.length (lawL ts lim m k s).2
  | 0, _, _, h1, h2 => ⟨h1, h2⟩
  | m + 1, k, s, h1, h2 => by
    rw [lawL]
    split
    · rename_i hc
      have hm := (h1 _ (getD_memM hc.1)).1
      obtain ⟨g1, g2⟩ := rrow_good hm ok h1
      refine lawL_good ok m (k + 1) _ g1 fun r hr => ?_
      rcases List.mem_append.mp hr with z | z
      · exact h2 r z
      · rw [List.mem_singleton.mp z]
        exact ⟨(rrow_len ts _ _).2.2, g2⟩
    · exact lawL_good ok m (k + 1) s h1 h2
theorem lawL_len {ts : List Tr} {lim : Nat} : ∀ (m k : Nat) (s : List (List Int) × List (List Int)), s.1.length ≤ lim + ts.length → (lawL ts lim m k s).1.length ≤ lim + ts.length ∧ (lawL ts lim m k s).2.length ≤ s.2.length + m
  | 0, _, _, h => ⟨h, by simp [lawL]⟩
  | m + 1, k, s, h => by
    rw [lawL]
    split
    · rename_i hc
      have := rrow_len ts (s.1.getD k []) s.1
      have ih := lawL_len (ts := ts) (lim := lim) m (k + 1) ((rrow ts (s.1.getD k []) s.1).1, s.2 ++ [(rrow ts (s.1.getD k []) s.1).2]) (by simp only; omega)
      simp at ih ⊢
      omega
    · have ih := lawL_len (ts := ts) (lim := lim) m (k + 1) s h
      omega
end DL

/-! DM3: runs, needs and effects in plain Lean. -/
namespace DL
open PySem PySem.Spec PyProof.Rows L2
theorem cov_iff : ∀ {a b : List Int}, a.length = b.length → (cov a b = true ↔ ∀ k, k < a.length → b.getD k 0 ≤ a.getD k 0)
  | [], [], _ => by simp [cov]
  | x :: xs, y :: ys, hl => by
    have ih := cov_iff (a := xs) (b := ys) (by simpa using hl)
    constructor
    · intro h k hk
      exact cov_get hl h k hk
    · intro h
      simp only [cov, Bool.and_eq_true, decide_eq_true_eq]
      refine ⟨by simpa using h 0 (by simp), ih.mpr fun k hk => ?_⟩
      simpa using h (k + 1) (by simpa using hk)
/-- a row of numbers -/
abbrev vec (n : Nat) (F : Nat → Int) : List Int := (List.range n).map F
theorem vec_len (n : Nat) (F : Nat → Int) : (vec n F).length = n := by simp
theorem vec_get {n : Nat} {F : Nat → Int} {k : Nat} (h : k < n) : (vec n F).getD k 0 = F k := by
  rw [List.getD_eq_getElem?_getD]; simp [h]
theorem vec_of {n : Nat} {xs : List Int} (hl : xs.length = n) : xs = vec n fun k => xs.getD k 0 := by
  apply List.ext_getElem
  · simp [hl]
  · intro k h1 h2
    simp only [List.getElem_map, List.getElem_range]
    rw [getD_at h1]
theorem vec_ext {n : Nat} {F G : Nat → Int} (h : ∀ k, k < n → F k = G k) : vec n F = vec n G := List.map_congr_left fun k hk => h k (List.mem_range.mp hk)
theorem vec_zero (n : Nat) : List.replicate n (0 : Int) = vec n fun _ => 0 := by
  apply List.ext_getElem
  · simp
  · intro k h1 h2; simp
theorem eq_vec {n : Nat} {xs : List Int} {F : Nat → Int} (hl : xs.length = n) (h : ∀ k, k < n → xs.getD k 0 = F k) : xs = vec n F := (vec_of hl).trans (vec_ext h)
def trAt (ts : List Tr) (i : Nat) : Tr := ts.getD i ⟨[], [], []⟩
theorem trAt_get {ts : List Tr} {i : Nat} (h : i < ts.length) : trAt ts i = ts[i] := by
  rw [trAt, List.getD_eq_getElem?_getD, List.getElem?_eq_getElem h]; rfl
theorem trAt_ok {n : Nat} {ts : List Tr} (ok : ∀ x ∈ ts, x.Ok n) {i : Nat} (h : i < ts.length) : (trAt ts i).Ok n := by
  rw [trAt_get h]; exact ok _ (List.getElem_mem h)
/-- a run: where it ends, or where it stops -/
def runO (ts : List Tr) : Nat → List Nat → List Int → Nat ⊕ List Int
  | _, [], m => .inr m
  | k, i :: r, m => if cov m (trAt ts i).t = true then runO ts (k + 1) r (firL (trAt ts i) m) else .inl k
def runL (ts : List Tr) : List Nat → List Int → Option (List Int)
  | [], m => some m
  | i :: r, m => if cov m (trAt ts i).t = true then runL ts r (firL (trAt ts i) m) else none
/-! ### plain transitions -/
def Tr.pl (n : Nat) (x : Tr) : Prop := x.m = vec n fun k => (k : Int)
theorem firs_pl {n : Nat} {x : Tr} (ok : x.Ok n) (hp : x.pl n) (mk : List Int) : ∀ j, j ≤ n → ∀ k, k < n → (firs x mk j).getD k 0 = if k < j then x.g.getD k 0 + (mk.getD k 0 - x.t.getD k 0) else x.g.getD k 0
  | 0, _, k, hk => by simp [firs]
  | j + 1, hj, k, hk => by
    have ih := firs_pl ok hp mk j (by omega)
    have hm : x.m.getD j 0 = (j : Int) := by rw [hp, vec_get (by omega)]
    rw [firs_succ]
    unfold fstep
    rw [hm, if_neg (by omega), Int.toNat_natCast]
    have hlen : (firs x mk j).length = n := by rw [firs_len, ok.lg]
    have ij := ih j (by omega)
    rw [if_neg (by omega)] at ij
    rw [ij]
    by_cases hkj : k = j
    · subst hkj
      rw [if_pos (by omega), List.getD_eq_getElem?_getD, List.getElem?_set_self (by omega)]
      rfl
    · rw [List.getD_eq_getElem?_getD, List.getElem?_set_ne (fun h => hkj h.symm), ← List.getD_eq_getElem?_getD, ih k hk]
      by_cases h : k < j
      · rw [if_pos h, if_pos (by omega)]
      · rw [if_neg h, if_neg (by omega)]
theorem firL_pl {n : Nat} {x : Tr} (ok : x.Ok n) (hp : x.pl n) {mk : List Int} (hl : mk.length = n) {k : Nat} (hk : k < n) : (firL x mk).getD k 0 = x.g.getD k 0 + (mk.getD k 0 - x.t.getD k 0) := by
  rw [firL, firs_pl ok hp mk _ (by omega) k hk, if_pos (by omega)]
/-- what a run needs, what it changes -/
def needF (ts : List Tr) : List Nat → Nat → Int
  | [], _ => 0
  | i :: r, k => (trAt ts i).t.getD k 0 + max 0 (needF ts r k - (trAt ts i).g.getD k 0)
def effF (ts : List Tr) : List Nat → Nat → Int
  | [], _ => 0
  | i :: r, k => ((trAt ts i).g.getD k 0 - (trAt ts i).t.getD k 0) + effF ts r k
theorem effF_snoc (ts : List Tr) (i k : Nat) : ∀ r : List Nat, effF ts (r ++ [i]) k = effF ts r k + ((trAt ts i).g.getD k 0 - (trAt ts i).t.getD k 0)
  | [] => by simp [effF]
  | j :: r => by simp only [List.cons_append, effF, effF_snoc ts i k r]; omega
theorem tr_t {n : Nat} {x : Tr} (ok : x.Ok n) {k : Nat} (h : k < n) : 0 ≤ x.t.getD k 0 ∧ x.t.getD k 0 ≤ 9 := ok.bt _ (getD_mem (by rw [ok.lt]; exact h))
theorem tr_g {n : Nat} {x : Tr} (ok : x.Ok n) {k : Nat} (h : k < n) : 0 ≤ x.g.getD k 0 ∧ x.g.getD k 0 ≤ 9 := ok.bg _ (getD_mem (by rw [ok.lg]; exact h))
theorem needF_pos {n : Nat} {ts : List Tr} (ok : ∀ x ∈ ts, x.Ok n) : ∀ {r : List Nat}, (∀ i ∈ r, i < ts.length) → ∀ {k}, k < n → 0 ≤ needF ts r k
  | [], _, _, _ => by simp [needF]
  | i :: r, h, k, hk => by
    have := tr_t (trAt_ok ok (h i List.mem_cons_self)) hk
    simp only [needF]
    omega
theorem effF_low {n : Nat} {ts : List Tr} (ok : ∀ x ∈ ts, x.Ok n) : ∀ {r : List Nat}, (∀ i ∈ r, i < ts.length) → ∀ {k}, k < n → -9 * (r.length : Int) ≤ effF ts r k
  | [], _, _, _ => by simp [effF]
  | i :: r, h, k, hk => by
    have h1 := tr_t (trAt_ok ok (h i List.mem_cons_self)) hk
    have h2 := tr_g (trAt_ok ok (h i List.mem_cons_self)) hk
    have ih := effF_low ok (r := r) (fun j hj => h j (List.mem_cons_of_mem _ hj)) hk
    simp only [effF, List.length_cons]
    push_cast
    omega
theorem run_law {n : Nat} {ts : List Tr} (ok : ∀ x ∈ ts, x.Ok n) (hp : ∀ x ∈ ts, x.pl n) : ∀ (r : List Nat), (∀ i ∈ r, i < ts.length) → ∀ (m : List Int), m.length = n → (∀ k, k < n → 0 ≤ m.getD k 0) →
    if ∀ k, k < n → needF ts r k ≤ m.getD k 0 then ∃ m', runL ts r m = some m' ∧ m'.length = n ∧ ∀ k, k < n → m'.getD k 0 = m.getD k 0 + effF ts r k else runL ts r m = none
  | [], _, m, hl, h0 => by
    rw [if_pos (fun k hk => by simpa [needF] using h0 k hk)]
    exact ⟨m, rfl, hl, fun k _ => by simp [effF]⟩
  | i :: r, hr, m, hl, h0 => by
    have hi := hr i List.mem_cons_self
    have oki := trAt_ok ok hi
    have hpi : (trAt ts i).pl n := by rw [trAt_get hi]; exact hp _ (List.getElem_mem hi)
    have hrr : ∀ j ∈ r, j < ts.length := fun j hj => hr j (List.mem_cons_of_mem _ hj)
    have hci := cov_iff (a := m) (b := (trAt ts i).t) (by rw [hl, oki.lt])
    rw [hl] at hci
    by_cases hc : cov m (trAt ts i).t = true
    · have hcc := hci.mp hc
      have hg := fun k (hk : k < n) => firL_pl oki hpi hl hk
      have hf0 : ∀ k, k < n → 0 ≤ (firL (trAt ts i) m).getD k 0 := fun k hk => by
        have := hcc k hk
        have := tr_g oki hk
        rw [hg k hk]; omega
      have ih := run_law ok hp r hrr (firL (trAt ts i) m) (firL_len oki) hf0
      have hrun : runL ts (i :: r) m = runL ts r (firL (trAt ts i) m) := by rw [runL, if_pos hc]
      have hiff : (∀ k, k < n → needF ts (i :: r) k ≤ m.getD k 0) ↔ ∀ k, k < n → needF ts r k ≤ (firL (trAt ts i) m).getD k 0 := by
        constructor
        · intro h k hk
          have h1 := h k hk
          simp only [needF] at h1
          rw [hg k hk]
          omega
        · intro h k hk
          have h1 := h k hk
          have h2 := hcc k hk
          rw [hg k hk] at h1
          simp only [needF]
          omega
      rw [hrun]
      by_cases hn : ∀ k, k < n → needF ts (i :: r) k ≤ m.getD k 0
      · rw [if_pos hn]
        rw [if_pos (hiff.mp hn)] at ih
        obtain ⟨m', h1, h2, h3⟩ := ih
        refine ⟨m', h1, h2, fun k hk => ?_⟩
        rw [h3 k hk, hg k hk]
        simp only [effF]
        omega
      · rw [if_neg hn]
        rwa [if_neg (fun h => hn (hiff.mpr h))] at ih
    · rw [if_neg, runL, if_neg hc]
      intro h
      refine hc (hci.mpr fun k hk => ?_)
      have h1 := h k hk
      simp only [needF] at h1
      omega
end DL

/-! DM4: complements in plain Lean. -/
namespace DL
open PySem PySem.Spec PyProof.Rows L2
/-! ### small antichains -/
theorem pigeon : ∀ (N : Nat) (l : List Nat), l.Nodup → (∀ x ∈ l, x < N) → l.length ≤ N
  | 0, l, _, h => by
    cases l with
    | nil => simp
    | cons a l => exact absurd (h a List.mem_cons_self) (by omega)
  | N + 1, l, hd, h => by
    by_cases hN : N ∈ l
    · have h1 := pigeon N (l.erase N) (hd.erase N) (fun x hx => by
        have hm := (hd.mem_erase_iff).mp hx
        have := h x hm.2
        omega)
      rw [List.length_erase_of_mem hN] at h1
      omega
    · have h1 := pigeon N l hd (fun x hx => by
        have := h x hx
        have : x ≠ N := fun e => hN (e ▸ hx)
        omega)
      omega
theorem idx_inj {V : List Int} {x y : Int} (hx : x ∈ V) (h : V.idxOf x = V.idxOf y) : x = y := by
  have h1 : V.idxOf x < V.length := List.idxOf_lt_length_iff.mpr hx
  have h2 : V.idxOf y < V.length := by omega
  have e1 := List.getElem_idxOf h1
  have e2 := List.getElem_idxOf h2
  rw [← e1, ← e2]
  congr 1
theorem anti_len (f : List (List Int)) (hd : f.Nodup) (V0 V1 : List Int) (h0 : ∀ a ∈ f, a.getD 0 0 ∈ V0) (h1 : ∀ a ∈ f, a.getD 1 0 ∈ V1)
    (hinj : ∀ a ∈ f, ∀ b ∈ f, a.getD 0 0 = b.getD 0 0 → a.getD 1 0 = b.getD 1 0 → a = b) : f.length ≤ V0.length * V1.length := by
  have hcode : ∀ a ∈ f, V0.idxOf (a.getD 0 0) * V1.length + V1.idxOf (a.getD 1 0) < V0.length * V1.length := fun a ha => by
    have i0 : V0.idxOf (a.getD 0 0) < V0.length := List.idxOf_lt_length_iff.mpr (h0 a ha)
    have i1 : V1.idxOf (a.getD 1 0) < V1.length := List.idxOf_lt_length_iff.mpr (h1 a ha)
    calc V0.idxOf (a.getD 0 0) * V1.length + V1.idxOf (a.getD 1 0) < V0.idxOf (a.getD 0 0) * V1.length + V1.length := by omega
      _ = (V0.idxOf (a.getD 0 0) + 1) * V1.length := by rw [Nat.succ_mul]
      _ ≤ V0.length * V1.length := Nat.mul_le_mul_right _ i0
  have hn : (f.map fun a => V0.idxOf (a.getD 0 0) * V1.length + V1.idxOf (a.getD 1 0)).Nodup := by
    refine List.pairwise_map.mpr (List.Pairwise.imp_of_mem (fun {a b} ha hb hne he => hne ?_) hd)
    have i1 : V1.idxOf (a.getD 1 0) < V1.length := List.idxOf_lt_length_iff.mpr (h1 a ha)
    have i2 : V1.idxOf (b.getD 1 0) < V1.length := List.idxOf_lt_length_iff.mpr (h1 b hb)
    have hpos : 0 < V1.length := by omega
    have e0 : V0.idxOf (a.getD 0 0) = V0.idxOf (b.getD 0 0) := by
      have := congrArg (· / V1.length) he
      simp only [Nat.mul_comm _ V1.length, Nat.mul_add_div hpos, Nat.div_eq_of_lt i1, Nat.div_eq_of_lt i2] at this
      omega
    have e1 : V1.idxOf (a.getD 1 0) = V1.idxOf (b.getD 1 0) := by rw [e0] at he; omega
    exact hinj a ha b hb (idx_inj (h0 a ha) e0) (idx_inj (h1 a ha) e1)
  have := pigeon (V0.length * V1.length) _ hn (fun x hx => by
    obtain ⟨a, ha, rfl⟩ := List.mem_map.mp hx
    exact hcode a ha)
  simpa using this
theorem sorted_nodup {l : List (List Int)} (h : l.Pairwise fun a b => ltI a b = true) : l.Nodup :=
  h.imp fun {a b} hab e => by subst e; rw [ltI_irrefl] at hab; cases hab
/-- one place told, the others alike -/
def singL (n p : Nat) (v r : Int) : List Int := (List.replicate n r).set p v
theorem singL_len (n p : Nat) (v r : Int) : (singL n p v r).length = n := by simp [singL]
theorem singL_self {n p : Nat} (v r : Int) (h : p < n) : (singL n p v r).getD p 0 = v := by
  rw [singL, List.getD_eq_getElem?_getD, List.getElem?_set_self (by simpa using h)]; rfl
theorem singL_ne {n p k : Nat} (v r : Int) (h : k < n) (hk : k ≠ p) : (singL n p v r).getD k 0 = r := by
  rw [singL, List.getD_eq_getElem?_getD, List.getElem?_set_ne (fun e => hk e.symm)]
  simp [h]
/-! ### the complement of a closed set -/
def belowL (n : Nat) (m : List Int) : List (List Int) := ((List.range n).filter fun p => decide (0 < m.getD p 0)).map fun p => singL n p (m.getD p 0 - 1) (-1)
theorem mem_below {n : Nat} {m l : List Int} : l ∈ belowL n m ↔ ∃ p, p < n ∧ 0 < m.getD p 0 ∧ l = singL n p (m.getD p 0 - 1) (-1) := by
  simp only [belowL, List.mem_map, List.mem_filter, List.mem_range, decide_eq_true_eq]
  constructor
  · rintro ⟨p, ⟨h1, h2⟩, rfl⟩; exact ⟨p, h1, h2, rfl⟩
  · rintro ⟨p, h1, h2, rfl⟩; exact ⟨p, ⟨h1, h2⟩, rfl⟩
theorem below_len (n : Nat) (m : List Int) : (belowL n m).length ≤ n := by
  rw [belowL, List.length_map]
  exact Nat.le_trans (List.length_filter_le _ _) (by simp)
theorem sing_mem {n p : Nat} {v r y : Int} (h : y ∈ singL n p v r) : y = v ∨ y = r := by
  rcases List.mem_or_eq_of_mem_set h with h | h
  · exact .inr (List.mem_replicate.mp h).2
  · exact .inl h
theorem below_lim {n : Nat} {m l : List Int} (h : l ∈ belowL n m) : Lim n l := by
  obtain ⟨p, hp, h0, rfl⟩ := mem_below.mp h
  exact ⟨singL_len _ _ _ _, fun y hy => by rcases sing_mem hy with rfl | rfl <;> omega⟩
theorem adm_below {n : Nat} {m x : List Int} (hm : m.length = n) (hx : x.length = n) (h0 : ∀ k, k < n → 0 ≤ x.getD k 0) : admS (belowL n m) x = !cov x m := by
  have hci := cov_iff (a := x) (b := m) (by omega)
  rw [hx] at hci
  by_cases hc : cov x m = true
  · rw [hc]
    have h := hci.mp hc
    simp only [admS, List.any_eq_false, Bool.not_true, Bool.not_eq_true]
    intro l hl
    obtain ⟨p, hp, h1, rfl⟩ := mem_below.mp hl
    cases ha : admL (singL n p (m.getD p 0 - 1) (-1)) x with
    | false => rfl
    | true =>
      have := admL_iff.mp ha p (by rw [singL_len]; exact hp)
      rw [singL_self _ _ hp, a1_iff] at this
      have := h p hp
      omega
  · have hc' : cov x m = false := by simpa using hc
    rw [hc']
    have : ∃ p, p < n ∧ ¬ m.getD p 0 ≤ x.getD p 0 := by
      apply Classical.byContradiction
      intro hh
      exact hc (hci.mpr fun k hk => Classical.byContradiction fun h => hh ⟨k, hk, h⟩)
    obtain ⟨p, hp, h1⟩ := this
    have h2 := h0 p hp
    simp only [admS, Bool.not_false, List.any_eq_true]
    refine ⟨_, mem_below.mpr ⟨p, hp, by omega, rfl⟩, admL_iff.mpr fun k hk => ?_⟩
    rw [singL_len] at hk
    by_cases hkp : k = p
    · subst hkp; rw [singL_self _ _ hp, a1_iff]; omega
    · rw [singL_ne _ _ hk hkp, a1_iff]; omega
theorem adm_meets {n : Nat} {A B : List (List Int)} {x : List Int} (hA : ∀ a ∈ A, Lim n a) (hB : ∀ b ∈ B, Lim n b) : admS (meets A B) x = (admS A x && admS B x) := by
  rw [Bool.eq_iff_iff]
  simp only [admS, Bool.and_eq_true, List.any_eq_true]
  constructor
  · rintro ⟨l, hl, h⟩
    obtain ⟨a, ha, b, hb, rfl⟩ := mem_meets.mp hl
    rw [adm_meet (hA a ha).1 (hB b hb).1, Bool.and_eq_true] at h
    exact ⟨⟨a, ha, h.1⟩, ⟨b, hb, h.2⟩⟩
  · rintro ⟨⟨a, ha, h1⟩, ⟨b, hb, h2⟩⟩
    exact ⟨_, mem_meets.mpr ⟨a, ha, b, hb, rfl⟩, by rw [adm_meet (hA a ha).1 (hB b hb).1, h1, h2]; rfl⟩
theorem meets_lim {n : Nat} {A B : List (List Int)} (hA : ∀ a ∈ A, Lim n a) (hB : ∀ b ∈ B, Lim n b) : ∀ l ∈ meets A B, Lim n l := fun l hl => by
  obtain ⟨a, ha, b, hb, rfl⟩ := mem_meets.mp hl
  exact lim_meet (hA a ha) (hB b hb)
theorem adm_top {n : Nat} {ms : List (List Int)} (hl : ∀ m ∈ ms, Lim n m) (x : List Int) : admS (topL winL ms) x = admS ms x := by
  rw [Bool.eq_iff_iff]
  simp only [admS, List.any_eq_true]
  constructor
  · rintro ⟨l, h1, h2⟩; exact ⟨l, top_sub h1, h2⟩
  · rintro ⟨l, h1, h2⟩
    obtain ⟨f, hf, hw⟩ := top_above (R := winL) (ms := ms) (fun m _ => win_refl m) (fun a ha b hb c hc => win_trans (hl a ha).1 (hl b hb).1) (fun a ha b hb => win_anti (hl a ha) (hl b hb)) l h1
    exact ⟨f, hf, adm_win (hl l h1).1 (hl f (top_sub hf)).1 hw h2⟩
def ccStep (n : Nat) (f : List (List Int)) (m : List Int) : List (List Int) := topL winL (meets f (belowL n m))
def ccL (n : Nat) (ms : List (List Int)) : List (List Int) := ms.foldl (ccStep n) [List.replicate n (-1)]
/-- what is kept: limits, an antichain, values told by the members passed -/
structure CC (n : Nat) (V : Nat → List Int) (f : List (List Int)) : Prop where
  lim : ∀ l ∈ f, Lim n l
  top : topL winL f = f
  nod : f.Nodup
  vals : ∀ l ∈ f, ∀ k, k < n → l.getD k 0 ∈ V k
theorem rep_get {n k : Nat} {r : Int} (h : k < n) : (List.replicate n r).getD k 0 = r := by
  rw [List.getD_eq_getElem?_getD]; simp [h]
theorem CC.start (n : Nat) : CC n (fun _ => [-1]) [List.replicate n (-1)] where
  lim := fun l hl => by
    rw [List.mem_singleton.mp hl]
    exact ⟨by simp, fun y hy => by have := (List.mem_replicate.mp hy).2; omega⟩
  top := by
    have hs : sortU [List.replicate n (-1 : Int)] = [List.replicate n (-1)] := rfl
    unfold topL
    rw [hs]
    simp [topB]
  nod := by simp
  vals := fun l hl k hk => by rw [List.mem_singleton.mp hl, rep_get hk]; simp
theorem lesI_mem (a b : Int) : lesI a b = a ∨ lesI a b = b := by
  unfold lesI
  split
  · exact .inr rfl
  · split
    · exact .inl rfl
    · split
      · exact .inr rfl
      · exact .inl rfl
theorem CC.step {n : Nat} {V : Nat → List Int} {f : List (List Int)} (h : CC n V f) (hb : ∀ k, k < n → (-1 : Int) ∈ V k) (m : List Int) : CC n (fun k => (m.getD k 0 - 1) :: V k) (ccStep n f m) where
  lim := fun l hl => meets_lim h.lim (fun b hb => below_lim hb) l (top_sub hl)
  top := top_top _
  nod := sorted_nodup (sorted_top _)
  vals := fun l hl k hk => by
    obtain ⟨a, ha, b, hbb, rfl⟩ := mem_meets.mp (top_sub hl)
    have hal := (h.lim a ha).1
    rw [lmeet_get a b k (by omega)]
    have hv := h.vals a ha k hk
    obtain ⟨p, hp, h0, rfl⟩ := mem_below.mp hbb
    rcases lesI_mem (a.getD k 0) ((singL n p (m.getD p 0 - 1) (-1)).getD k 0) with e | e
    · rw [e]; exact List.mem_cons_of_mem _ hv
    · rw [e]
      by_cases hkp : k = p
      · subst hkp; rw [singL_self _ _ hp]; exact List.mem_cons_self
      · rw [singL_ne _ _ hk hkp]; exact List.mem_cons_of_mem _ (hb k hk)
theorem topB_of {R : List Int → List Int → Bool} {f : List (List Int)} (h : topL R f = f) {a : List Int} (ha : a ∈ f) : ∀ o ∈ f, R a o = true → o = a := by
  rw [← h] at ha
  exact topB_iff.mp (List.mem_filter.mp ha).2
theorem w1_total (a b : Int) : w1 a b = true ∨ w1 b a = true := by
  rw [w1_iff, w1_iff]; omega
theorem w1_refl (a : Int) : w1 a a = true := by rw [w1_iff]; omega
theorem CC.size {n : Nat} {V : Nat → List Int} {f : List (List Int)} (h : CC n V f) (h0 : 0 < n) (hn : n ≤ 3) : f.length ≤ (V 0).length * ((V 1).length + 1) := by
  have := anti_len f h.nod (V 0) (0 :: V 1) (fun a ha => h.vals a ha 0 h0) (fun a ha => by
    by_cases h1 : 1 < n
    · exact List.mem_cons_of_mem _ (h.vals a ha 1 h1)
    · have hl := (h.lim a ha).1
      have : a.getD 1 0 = 0 := by rw [List.getD_eq_getElem?_getD, List.getElem?_eq_none (by omega)]; rfl
      rw [this]; exact List.mem_cons_self) (fun a ha b hb e0 e1 => by
    have hla := (h.lim a ha).1
    have hlb := (h.lim b hb).1
    rcases w1_total (a.getD 2 0) (b.getD 2 0) with w | w
    · refine (topB_of h.top ha b hb (winL_iff.mpr fun k hk => ?_)).symm
      have : k = 0 ∨ k = 1 ∨ k = 2 := by omega
      rcases this with rfl | rfl | rfl
      · rw [e0]; exact w1_refl _
      · rw [e1]; exact w1_refl _
      · exact w
    · refine topB_of h.top hb a ha (winL_iff.mpr fun k hk => ?_)
      have : k = 0 ∨ k = 1 ∨ k = 2 := by omega
      rcases this with rfl | rfl | rfl
      · rw [e0]; exact w1_refl _
      · rw [e1]; exact w1_refl _
      · exact w)
  simpa using this
end DL

/-! DM5: complements in plain Lean, their laws. -/
namespace DL
open PySem PySem.Spec PyProof.Rows L2
theorem cc_go (n : Nat) : ∀ (ms : List (List Int)) (f : List (List Int)) (V : Nat → List Int), CC n V f → (∀ k, k < n → (-1 : Int) ∈ V k) → (∀ k, k < n → ∀ v ∈ V k, v < 100) → (∀ m ∈ ms, ∀ k, k < n → m.getD k 0 < 100) →
    ∃ V', CC n V' (ms.foldl (ccStep n) f) ∧ (∀ k, (V' k).length = (V k).length + ms.length) ∧ (∀ k, k < n → (-1 : Int) ∈ V' k) ∧ ∀ k, k < n → ∀ v ∈ V' k, v < 100
  | [], f, V, h, hb, hv, _ => ⟨V, h, fun _ => rfl, hb, hv⟩
  | m :: ms, f, V, h, hb, hv, hm => by
    obtain ⟨V', h1, h2, h3, h4⟩ := cc_go n ms (ccStep n f m) _ (h.step hb m) (fun k hk => List.mem_cons_of_mem _ (hb k hk)) (fun k hk v hvv => by
      rcases List.mem_cons.mp hvv with rfl | hvv
      · have := hm m List.mem_cons_self k hk; omega
      · exact hv k hk v hvv) (fun z hz => hm z (List.mem_cons_of_mem _ hz))
    exact ⟨V', h1, fun k => by rw [h2 k]; simp; omega, h3, h4⟩
theorem adm_go {n : Nat} {x : List Int} (hx : x.length = n) (h0 : ∀ k, k < n → 0 ≤ x.getD k 0) : ∀ (ms f : List (List Int)), (∀ l ∈ f, Lim n l) → (∀ m ∈ ms, m.length = n) → admS (ms.foldl (ccStep n) f) x = (admS f x && ms.all fun m => !cov x m)
  | [], f, _, _ => by simp
  | m :: ms, f, hf, hm => by
    have hl := meets_lim hf (fun b hb => below_lim (m := m) hb)
    rw [List.foldl_cons, adm_go hx h0 ms (ccStep n f m) (fun l hl' => hl l (top_sub hl')) (fun z hz => hm z (List.mem_cons_of_mem _ hz))]
    rw [ccStep, adm_top hl, adm_meets hf (fun b hb => below_lim hb), adm_below (hm m List.mem_cons_self) hx h0, List.all_cons, Bool.and_assoc]
theorem adm_cc {n : Nat} {x : List Int} (hx : x.length = n) (h0 : ∀ k, k < n → 0 ≤ x.getD k 0) (ms : List (List Int)) (hm : ∀ m ∈ ms, m.length = n) : admS (ccL n ms) x = !ins ms x := by
  rw [ccL, adm_go hx h0 ms _ (CC.start n).lim hm]
  have : admS [List.replicate n (-1)] x = true := by
    simp only [admS, List.any_cons, List.any_nil, Bool.or_false]
    refine admL_iff.mpr fun k hk => ?_
    rw [List.length_replicate] at hk
    rw [rep_get hk, a1_iff]; omega
  rw [this, Bool.true_and, ins]
  induction ms with
  | nil => rfl
  | cons m ms ih => simp only [List.all_cons, List.any_cons, Bool.not_or]; rw [ih (fun z hz => hm z (List.mem_cons_of_mem _ hz))]
theorem set_get {n p k : Nat} {l : List Int} {v : Int} (hl : l.length = n) (hp : p < n) : (l.set p v).getD k 0 = if k = p then v else l.getD k 0 := by
  by_cases h : k = p
  · subst h; rw [if_pos rfl, List.getD_eq_getElem?_getD, List.getElem?_set_self (by omega)]; rfl
  · rw [if_neg h, List.getD_eq_getElem?_getD, List.getElem?_set_ne (fun e => h e.symm), ← List.getD_eq_getElem?_getD]
/-- a limit of the complement can't be raised -/
theorem cc_least {n : Nat} {V : Nat → List Int} {ms : List (List Int)} (hm : ∀ m ∈ ms, m.length = n) (hc : CC n V (ccL n ms)) (hV : ∀ k, k < n → ∀ v ∈ V k, v < 100) {l : List Int} (hl : l ∈ ccL n ms) {p : Nat} (hp : p < n) (h0 : 0 ≤ l.getD p 0) :
    (ms.filter fun m => admL (l.set p (l.getD p 0 + 1)) m) ≠ [] := by
  intro hno
  have hll := (hc.lim l hl).1
  have hno' : ∀ m ∈ ms, admL (l.set p (l.getD p 0 + 1)) m = false := fun m hmm => by
    have := List.filter_eq_nil_iff.mp hno m hmm
    simpa using this
  let x := vec n fun k => if (l.set p (l.getD p 0 + 1)).getD k 0 < 0 then 100 else (l.set p (l.getD p 0 + 1)).getD k 0
  have hxl : x.length = n := vec_len n _
  have hxg : ∀ k, k < n → x.getD k 0 = if (l.set p (l.getD p 0 + 1)).getD k 0 < 0 then 100 else (l.set p (l.getD p 0 + 1)).getD k 0 := fun k hk => vec_get hk
  have hx0 : ∀ k, k < n → 0 ≤ x.getD k 0 := fun k hk => by rw [hxg k hk]; split <;> omega
  have hadm := adm_cc hxl hx0 ms hm
  have hins : ins ms x = false := by
    cases hi : ins ms x with
    | false => rfl
    | true =>
      obtain ⟨m, hmm, hcv⟩ := ins_iff.mp hi
      have hcc := (cov_iff (a := x) (b := m) (by rw [hxl, hm m hmm])).mp hcv
      have : admL (l.set p (l.getD p 0 + 1)) m = true := admL_iff.mpr fun k hk => by
        rw [List.length_set, hll] at hk
        have h1 := hcc k (by omega)
        rw [hxg k hk] at h1
        rw [a1_iff]
        split at h1 <;> omega
      rw [hno' m hmm] at this
      cases this
  rw [hins] at hadm
  simp only [admS, Bool.not_false, List.any_eq_true] at hadm
  obtain ⟨f, hf, hfa⟩ := hadm
  have hfl := (hc.lim f hf).1
  have hfa' := admL_iff.mp hfa
  have hwin : winL l f = true := winL_iff.mpr fun k hk => by
    rw [hll] at hk
    have h1 := hfa' k (by omega)
    rw [a1_iff, hxg k hk, set_get hll hp] at h1
    have h2 := hV k hk _ (hc.vals f hf k hk)
    rw [w1_iff]
    by_cases hkp : k = p
    · subst hkp
      rw [if_pos rfl] at h1
      split at h1 <;> omega
    · rw [if_neg hkp] at h1
      split at h1 <;> omega
  have he := topB_of hc.top hl f hf hwin
  rw [he] at hfa'
  have h1 := hfa' p (by omega)
  rw [a1_iff, hxg p hp, set_get hll hp, if_pos rfl] at h1
  split at h1 <;> omega
/-! ### the complement of a frame -/
def aboveL (n : Nat) (l : List Int) : List (List Int) := ((List.range n).filter fun p => decide (l.getD p 0 ≠ -1)).map fun p => singL n p (l.getD p 0 + 1) 0
theorem mem_above {n : Nat} {l m : List Int} : m ∈ aboveL n l ↔ ∃ p, p < n ∧ l.getD p 0 ≠ -1 ∧ m = singL n p (l.getD p 0 + 1) 0 := by
  simp only [aboveL, List.mem_map, List.mem_filter, List.mem_range, decide_eq_true_eq]
  constructor
  · rintro ⟨p, ⟨h1, h2⟩, rfl⟩; exact ⟨p, h1, h2, rfl⟩
  · rintro ⟨p, h1, h2, rfl⟩; exact ⟨p, ⟨h1, h2⟩, rfl⟩
theorem above_len (n : Nat) (l : List Int) : (aboveL n l).length ≤ n := by
  rw [aboveL, List.length_map]
  exact Nat.le_trans (List.length_filter_le _ _) (by simp)
theorem ins_above {n : Nat} {l x : List Int} (hl : Lim n l) (hx : x.length = n) (h0 : ∀ k, k < n → 0 ≤ x.getD k 0) : ins (aboveL n l) x = !admL l x := by
  by_cases ha : admL l x = true
  · rw [ha]
    have h := admL_iff.mp ha
    cases hi : ins (aboveL n l) x with
    | false => rfl
    | true =>
      obtain ⟨m, hm, hc⟩ := ins_iff.mp hi
      obtain ⟨p, hp, h1, rfl⟩ := mem_above.mp hm
      have := (cov_iff (a := x) (b := singL n p (l.getD p 0 + 1) 0) (by rw [hx, singL_len])).mp hc p (by omega)
      rw [singL_self _ _ hp] at this
      have h2 := h p (by rw [hl.1]; exact hp)
      rw [a1_iff] at h2
      have := hl.get hp
      omega
  · have ha' : admL l x = false := by simpa using ha
    rw [ha']
    have : ∃ p, p < n ∧ ¬ a1 (l.getD p 0) (x.getD p 0) = true := by
      apply Classical.byContradiction
      intro hh
      exact ha (admL_iff.mpr fun k hk => Classical.byContradiction fun h => hh ⟨k, by rw [← hl.1]; exact hk, h⟩)
    obtain ⟨p, hp, h1⟩ := this
    rw [a1_iff] at h1
    refine ins_iff.mpr ⟨_, mem_above.mpr ⟨p, hp, by omega, rfl⟩, ?_⟩
    refine (cov_iff (a := x) (b := singL n p (l.getD p 0 + 1) 0) (by rw [hx, singL_len])).mpr fun k hk => ?_
    rw [hx] at hk
    by_cases hkp : k = p
    · subst hkp; rw [singL_self _ _ hp]; omega
    · rw [singL_ne _ _ hk hkp]; exact h0 k hk
theorem ins_joins {n : Nat} {A B : List (List Int)} {x : List Int} (hA : ∀ a ∈ A, a.length = n) (hB : ∀ b ∈ B, b.length = n) (hx : x.length = n) : ins (joins A B) x = (ins A x && ins B x) := by
  rw [Bool.eq_iff_iff, Bool.and_eq_true, ins_iff, ins_iff, ins_iff]
  constructor
  · rintro ⟨l, hl, h⟩
    obtain ⟨a, ha, b, hb, rfl⟩ := mem_joins.mp hl
    rw [cov_join x a b (by rw [hx, hA a ha]) (by rw [hA a ha, hB b hb]), Bool.and_eq_true] at h
    exact ⟨⟨a, ha, h.1⟩, ⟨b, hb, h.2⟩⟩
  · rintro ⟨⟨a, ha, h1⟩, ⟨b, hb, h2⟩⟩
    exact ⟨_, mem_joins.mpr ⟨a, ha, b, hb, rfl⟩, by rw [cov_join x a b (by rw [hx, hA a ha]) (by rw [hA a ha, hB b hb]), h1, h2]; rfl⟩
def cfStep (n : Nat) (f : List (List Int)) (l : List Int) : List (List Int) := leastL (joins f (aboveL n l))
def cfL (n : Nat) (ls : List (List Int)) : List (List Int) := ls.foldl (cfStep n) [List.replicate n 0]
structure CF (n : Nat) (V : Nat → List Int) (f : List (List Int)) : Prop where
  len : ∀ l ∈ f, l.length = n
  pos : ∀ l ∈ f, ∀ k, k < n → 0 ≤ l.getD k 0
  top : topL cov f = f
  nod : f.Nodup
  vals : ∀ l ∈ f, ∀ k, k < n → l.getD k 0 ∈ V k
theorem least_top (ms : List (List Int)) : leastL ms = topL cov ms := rfl
theorem joinL_get {a b : List Int} {k : Nat} (h : k < a.length) : (joinL a b).getD k 0 = mxI (a.getD k 0) (b.getD k 0) := by
  simp [joinL, h]
theorem mxI_mem (a b : Int) : mxI a b = a ∨ mxI a b = b := by
  unfold mxI; split
  · exact .inr rfl
  · exact .inl rfl
theorem above_ok {n : Nat} {l m : List Int} (hl : Lim n l) (h : m ∈ aboveL n l) : m.length = n ∧ ∀ k, k < n → 0 ≤ m.getD k 0 := by
  obtain ⟨p, hp, h1, rfl⟩ := mem_above.mp h
  refine ⟨singL_len _ _ _ _, fun k hk => ?_⟩
  have := hl.get hp
  by_cases hkp : k = p
  · subst hkp; rw [singL_self _ _ hp]; omega
  · rw [singL_ne _ _ hk hkp]; omega
theorem joins_ok {n : Nat} {A B : List (List Int)} (hA : ∀ a ∈ A, a.length = n) (hB : ∀ b ∈ B, b.length = n) : ∀ l ∈ joins A B, l.length = n := fun l hl => by
  obtain ⟨a, ha, b, hb, rfl⟩ := mem_joins.mp hl
  rw [joinL_len, hA a ha]
theorem CF.start (n : Nat) : CF n (fun _ => [0]) [List.replicate n 0] where
  len := fun l hl => by rw [List.mem_singleton.mp hl]; simp
  pos := fun l hl k hk => by rw [List.mem_singleton.mp hl, rep_get hk]; omega
  top := by
    have hs : sortU [List.replicate n (0 : Int)] = [List.replicate n 0] := rfl
    unfold topL
    rw [hs]
    simp [topB]
  nod := by simp
  vals := fun l hl k hk => by rw [List.mem_singleton.mp hl, rep_get hk]; simp
theorem CF.step {n : Nat} {V : Nat → List Int} {f : List (List Int)} (h : CF n V f) (hb : ∀ k, k < n → (0 : Int) ∈ V k) (l : List Int) (hl : Lim n l) : CF n (fun k => (l.getD k 0 + 1) :: V k) (cfStep n f l) where
  len := fun m hm => joins_ok h.len (fun b hb => (above_ok hl hb).1) m (least_sub hm)
  pos := fun m hm k hk => by
    obtain ⟨a, ha, b, hbb, rfl⟩ := mem_joins.mp (least_sub hm)
    rw [joinL_get (by rw [h.len a ha]; exact hk)]
    have h1 := h.pos a ha k hk
    have h2 := (above_ok hl hbb).2 k hk
    rcases mxI_mem (a.getD k 0) (b.getD k 0) with e | e <;> omega
  top := least_least _
  nod := sorted_nodup (sorted_least _)
  vals := fun m hm k hk => by
    obtain ⟨a, ha, b, hbb, rfl⟩ := mem_joins.mp (least_sub hm)
    rw [joinL_get (by rw [h.len a ha]; exact hk)]
    have hv := h.vals a ha k hk
    obtain ⟨p, hp, h0, rfl⟩ := mem_above.mp hbb
    rcases mxI_mem (a.getD k 0) ((singL n p (l.getD p 0 + 1) 0).getD k 0) with e | e
    · rw [e]; exact List.mem_cons_of_mem _ hv
    · rw [e]
      by_cases hkp : k = p
      · subst hkp; rw [singL_self _ _ hp]; exact List.mem_cons_self
      · rw [singL_ne _ _ hk hkp]; exact List.mem_cons_of_mem _ (hb k hk)
theorem CF.size {n : Nat} {V : Nat → List Int} {f : List (List Int)} (h : CF n V f) (h0 : 0 < n) (hn : n ≤ 3) : f.length ≤ (V 0).length * ((V 1).length + 1) := by
  have := anti_len f h.nod (V 0) (0 :: V 1) (fun a ha => h.vals a ha 0 h0) (fun a ha => by
    by_cases h1 : 1 < n
    · exact List.mem_cons_of_mem _ (h.vals a ha 1 h1)
    · have hl := h.len a ha
      have : a.getD 1 0 = 0 := by rw [List.getD_eq_getElem?_getD, List.getElem?_eq_none (by omega)]; rfl
      rw [this]; exact List.mem_cons_self) (fun a ha b hb e0 e1 => by
    have hla := h.len a ha
    have hlb := h.len b hb
    rcases Int.le_total (b.getD 2 0) (a.getD 2 0) with w | w
    · refine (topB_of h.top ha b hb ((cov_iff (by omega)).mpr fun k hk => ?_)).symm
      have : k = 0 ∨ k = 1 ∨ k = 2 := by omega
      rcases this with rfl | rfl | rfl <;> omega
    · refine topB_of h.top hb a ha ((cov_iff (by omega)).mpr fun k hk => ?_)
      have : k = 0 ∨ k = 1 ∨ k = 2 := by omega
      rcases this with rfl | rfl | rfl <;> omega)
  simpa using this
theorem cf_go (n : Nat) : ∀ (ls : List (List Int)) (f : List (List Int)) (V : Nat → List Int), CF n V f → (∀ k, k < n → (0 : Int) ∈ V k) → (∀ l ∈ ls, Lim n l) →
    ∃ V', CF n V' (ls.foldl (cfStep n) f) ∧ (∀ k, (V' k).length = (V k).length + ls.length) ∧ ∀ k, k < n → (0 : Int) ∈ V' k
  | [], f, V, h, hb, _ => ⟨V, h, fun _ => rfl, hb⟩
  | l :: ls, f, V, h, hb, hl => by
    obtain ⟨V', h1, h2, h3⟩ := cf_go n ls (cfStep n f l) _ (h.step hb l (hl l List.mem_cons_self)) (fun k hk => List.mem_cons_of_mem _ (hb k hk)) (fun z hz => hl z (List.mem_cons_of_mem _ hz))
    exact ⟨V', h1, fun k => by rw [h2 k]; simp; omega, h3⟩
theorem ins_go {n : Nat} {x : List Int} (hx : x.length = n) (h0 : ∀ k, k < n → 0 ≤ x.getD k 0) : ∀ (ls f : List (List Int)), (∀ l ∈ f, l.length = n) → (∀ l ∈ ls, Lim n l) → ins (ls.foldl (cfStep n) f) x = (ins f x && ls.all fun l => !admL l x)
  | [], f, _, _ => by simp
  | l :: ls, f, hf, hl => by
    have hj := joins_ok hf (fun b hb => (above_ok (hl l List.mem_cons_self) hb).1)
    rw [List.foldl_cons, ins_go hx h0 ls (cfStep n f l) (fun m hm => hj m (least_sub hm)) (fun z hz => hl z (List.mem_cons_of_mem _ hz))]
    rw [cfStep, ins_least _ n hj x hx, ins_joins hf (fun b hb => (above_ok (hl l List.mem_cons_self) hb).1) hx, ins_above (hl l List.mem_cons_self) hx h0, List.all_cons, Bool.and_assoc]
theorem ins_cf {n : Nat} {x : List Int} (hx : x.length = n) (h0 : ∀ k, k < n → 0 ≤ x.getD k 0) (ls : List (List Int)) (hl : ∀ l ∈ ls, Lim n l) : ins (cfL n ls) x = !admS ls x := by
  rw [cfL, ins_go hx h0 ls _ (CF.start n).len hl]
  have : ins [List.replicate n 0] x = true := ins_iff.mpr ⟨_, List.mem_singleton.mpr rfl, (cov_iff (by simp [hx])).mpr fun k hk => by rw [rep_get (by omega)]; exact h0 k (by omega)⟩
  rw [this, Bool.true_and, admS]
  induction ls with
  | nil => rfl
  | cons m ms ih => simp only [List.all_cons, List.any_cons, Bool.not_or]; rw [ih (fun z hz => hl z (List.mem_cons_of_mem _ hz))]
/-- a member of the complement can't be lowered -/
theorem cf_least {n : Nat} {V : Nat → List Int} {ls : List (List Int)} (hl : ∀ l ∈ ls, Lim n l) (hc : CF n V (cfL n ls)) {m : List Int} (hm : m ∈ cfL n ls) {p : Nat} (hp : p < n) (h0 : 0 < m.getD p 0) : admS ls (m.set p (m.getD p 0 - 1)) = true := by
  have hml := hc.len m hm
  have hx : (m.set p (m.getD p 0 - 1)).length = n := by rw [List.length_set, hml]
  have hx0 : ∀ k, k < n → 0 ≤ (m.set p (m.getD p 0 - 1)).getD k 0 := fun k hk => by
    rw [set_get hml hp]
    have := hc.pos m hm k hk
    split <;> omega
  have h := ins_cf hx hx0 ls hl
  cases ha : admS ls (m.set p (m.getD p 0 - 1)) with
  | true => rfl
  | false =>
    rw [ha] at h
    obtain ⟨f, hf, hcv⟩ := ins_iff.mp h
    have hfl := hc.len f hf
    have hcc := (cov_iff (a := m.set p (m.getD p 0 - 1)) (b := f) (by omega)).mp hcv
    have he := topB_of hc.top hm f hf ((cov_iff (by omega)).mpr fun k hk => by
      have := hcc k (by omega)
      rw [set_get hml hp] at this
      split at this
      · rename_i e; subst e; omega
      · exact this)
    rw [he] at hcc
    have := hcc p (by omega)
    rw [set_get hml hp, if_pos rfl] at this
    omega
end DL

set_option maxHeartbeats 4000000
/-! printed by gen.py: the defs of netguild_k05_complements, their semantics, their walks -/
namespace DL.k05
open PySem PySem.Spec PyProof.Rows L2 DL
def topS (i : Nat) : Stmt := PySem.Challenge.pw_netguild_k05_complements.main.body.getD i (.Pass ⟨0, 0, 0, 0⟩)
abbrev s_within : Stmt := topS 7
abbrev ps_within : List Str := ["first", "second"]
abbrev N_within : List Str := ["first", "second", "k"]
theorem sc_within : FnScope N_within ps_within (defScope s_within) := ⟨rfl, rfl, rfl, by decide +kernel, rfl, by decide +kernel, by decide +kernel⟩
noncomputable def g_within (cn : Str → Addr) : SM :=
  (sSeq (sForR gRng1 (sCons true (sO (oS gLen) (sCons true (sVar 0) sNil)) sNil) (gmName 2)
    (sIfS (sAnd (sTb (sO (oS gNe) (sCons true (sO oIx (sCons true (sVar 1) (sCons true (sVar 2) sNil))) (sCons true (sC (.int (-1))) sNil)))) (sOr (sTb (sO (oS gEq) (sCons true (sO oIx (sCons true (sVar 0) (sCons true (sVar 2) sNil))) (sCons true (sC (.int (-1))) sNil)))) (sTb (sO oGt (sCons true (sO oIx (sCons true (sVar 0) (sCons true (sVar 2) sNil))) (sCons true (sO oIx (sCons true (sVar 1) (sCons true (sVar 2) sNil))) sNil))))))
      (sRet (sC (.bl false)))
      sNext))
  (sRet (sC (.bl true))))
noncomputable def F_within (cn : Str → Addr) : FSem := fnOf 2 3 [] (g_within cn)
abbrev s_frame_of : Stmt := topS 8
abbrev ps_frame_of : List Str := ["limits"]
abbrev N_frame_of : List Str := ["limits", "found", "limit", "greatest", "other"]
theorem sc_frame_of : FnScope N_frame_of ps_frame_of (defScope s_frame_of) := ⟨rfl, rfl, rfl, by decide +kernel, rfl, by decide +kernel, by decide +kernel⟩
noncomputable def g_frame_of (cn : Str → Addr) : SM :=
  (sSeq (sSet 1 (sTake hLst sNil))
  (sSeq (sFor (sO oSortSet (sCons true (sVar 0) sNil)) (gmName 2)
    (sSeq (sSet 3 (sC (.bl true)))
    (sSeq (sForN 0 (gmName 4)
      (sIfS (sAnd (sTb (sO (oS gNe) (sCons true (sVar 4) (sCons true (sVar 2) sNil)))) (sTr (sCallL 2 (F_within cn) (sCons true (sVar 2) (sCons true (sVar 4) sNil)))))
        (sSet 3 (sC (.bl false)))
        sNext))
    (sIfS (sTr (sVar 3))
      (sApp 1 (sVar 2))
      sNext))))
  (sRet (sVar 1))))
noncomputable def F_frame_of (cn : Str → Addr) : FSem := fnOf 1 5 [] (g_frame_of cn)
abbrev s_lesser : Stmt := topS 9
abbrev ps_lesser : List Str := ["first", "second"]
abbrev N_lesser : List Str := ["first", "second"]
theorem sc_lesser : FnScope N_lesser ps_lesser (defScope s_lesser) := ⟨rfl, rfl, rfl, by decide +kernel, rfl, by decide +kernel, by decide +kernel⟩
noncomputable def g_lesser (cn : Str → Addr) : SM :=
  (sSeq (sIfS (sTb (sO (oS gEq) (sCons true (sVar 0) (sCons true (sC (.int (-1))) sNil))))
    (sRet (sVar 1))
    sNext)
  (sSeq (sIfS (sTb (sO (oS gEq) (sCons true (sVar 1) (sCons true (sC (.int (-1))) sNil))))
    (sRet (sVar 0))
    sNext)
  (sRet (sO oMin2 (sCons true (sVar 0) (sCons true (sVar 1) sNil))))))
noncomputable def F_lesser (cn : Str → Addr) : FSem := fnOf 2 2 [] (g_lesser cn)
abbrev s_limit_meet : Stmt := topS 10
abbrev ps_limit_meet : List Str := ["first", "second"]
abbrev N_limit_meet : List Str := ["first", "second", "k"]
theorem sc_limit_meet : FnScope N_limit_meet ps_limit_meet (defScope s_limit_meet) := ⟨rfl, rfl, rfl, by decide +kernel, rfl, by decide +kernel, by decide +kernel⟩
noncomputable def g_limit_meet (cn : Str → Addr) : SM :=
  (sRet (sO oTupOf (sCons true (sLcR [2] gRng1 (sCons true (sO (oS gLen) (sCons true (sVar 0) sNil)) sNil) (gmName 2) sYes (sCallL 2 (F_lesser cn) (sCons true (sO oIx (sCons true (sVar 0) (sCons true (sVar 2) sNil))) (sCons true (sO oIx (sCons true (sVar 1) (sCons true (sVar 2) sNil))) sNil)))) sNil)))
noncomputable def F_limit_meet (cn : Str → Addr) : FSem := fnOf 2 3 [] (g_limit_meet cn)
abbrev s_frame_meet : Stmt := topS 11
abbrev ps_frame_meet : List Str := ["first", "second"]
abbrev N_frame_meet : List Str := ["first", "second", "found", "one", "other"]
theorem sc_frame_meet : FnScope N_frame_meet ps_frame_meet (defScope s_frame_meet) := ⟨rfl, rfl, rfl, by decide +kernel, rfl, by decide +kernel, by decide +kernel⟩
noncomputable def g_frame_meet (cn : Str → Addr) : SM :=
  (sSeq (sSet 2 (sTake hLst sNil))
  (sSeq (sForN 0 (gmName 3)
    (sForN 1 (gmName 4)
      (sApp 2 (sCallL 2 (F_limit_meet cn) (sCons true (sVar 3) (sCons true (sVar 4) sNil))))))
  (sRet (sCallL 1 (F_frame_of cn) (sCons true (sVar 2) sNil)))))
noncomputable def F_frame_meet (cn : Str → Addr) : FSem := fnOf 2 5 [] (g_frame_meet cn)
abbrev s_single : Stmt := topS 13
abbrev ps_single : List Str := ["size", "place", "number", "rest"]
abbrev N_single : List Str := ["size", "place", "number", "rest", "found"]
theorem sc_single : FnScope N_single ps_single (defScope s_single) := ⟨rfl, rfl, rfl, by decide +kernel, rfl, by decide +kernel, by decide +kernel⟩
noncomputable def g_single (cn : Str → Addr) : SM :=
  (sSeq (sSet 4 (sO oMul (sCons true (sTake hLst (sCons true (sVar 3) sNil)) (sCons true (sVar 0) sNil))))
  (sSeq (sSetAt 4 (sCons true (sVar 2) (sCons true (sVar 1) sNil)))
  (sRet (sO oTupOf (sCons true (sVar 4) sNil)))))
noncomputable def F_single (cn : Str → Addr) : FSem := fnOf 4 5 [] (g_single cn)
abbrev s_complement_closed : Stmt := topS 14
abbrev ps_complement_closed : List Str := ["members", "size"]
abbrev N_complement_closed : List Str := ["members", "size", "found", "member", "below", "place"]
theorem sc_complement_closed : FnScope N_complement_closed ps_complement_closed (defScope s_complement_closed) := ⟨rfl, rfl, rfl, by decide +kernel, rfl, by decide +kernel, by decide +kernel⟩
noncomputable def g_complement_closed (cn : Str → Addr) : SM :=
  (sSeq (sSet 2 (sTake hLst (sCons true (sO oMulT (sCons true (sTake hTup (sCons true (sC (.int (-1))) sNil)) (sCons true (sVar 1) sNil))) sNil)))
  (sSeq (sForN 0 (gmName 3)
    (sSeq (sSet 4 (sTake hLst sNil))
    (sSeq (sForR gRng1 (sCons true (sVar 1) sNil) (gmName 5)
      (sIfS (sTb (sO oGt (sCons true (sO oIx (sCons true (sVar 3) (sCons true (sVar 5) sNil))) (sCons true (sC (.int 0)) sNil))))
        (sApp 4 (sCallL 4 (F_single cn) (sCons true (sVar 1) (sCons true (sVar 5) (sCons true (sO oSub (sCons true (sO oIx (sCons true (sVar 3) (sCons true (sVar 5) sNil))) (sCons true (sC (.int 1)) sNil))) (sCons true (sC (.int (-1))) sNil))))))
        sNext))
    (sSet 2 (sCallL 2 (F_frame_meet cn) (sCons true (sVar 2) (sCons true (sVar 4) sNil)))))))
  (sRet (sVar 2))))
noncomputable def F_complement_closed (cn : Str → Addr) : FSem := fnOf 2 6 [] (g_complement_closed cn)
abbrev s_zlaw_draws : Stmt := topS 17
abbrev ps_zlaw_draws : List Str := ["script", "count"]
abbrev N_zlaw_draws : List Str := ["script", "count", "cells", "found", "mixed", "k", "j", "cell", "again"]
theorem sc_zlaw_draws : FnScope N_zlaw_draws ps_zlaw_draws (defScope s_zlaw_draws) := ⟨rfl, rfl, rfl, by decide +kernel, rfl, by decide +kernel, by decide +kernel⟩
noncomputable def g_zlaw_draws (cn : Str → Addr) : SM :=
  (sSeq (sSet 2 (sO oListOf (sCons true (sVar 0) sNil)))
  (sSeq (sIfS (sTb (sO (oS gEq) (sCons true (sO (oS gLen) (sCons true (sVar 2) sNil)) (sCons true (sC (.int 0)) sNil))))
    (sSet 2 (sO oLst (sCons true (sC (.int 7)) sNil)))
    sNext)
  (sSeq (sSet 3 (sTake hLst sNil))
  (sSeq (sSet 4 (sC (.int 12345)))
  (sSeq (sForR gRng1 (sCons true (sVar 1) sNil) (gmName 5)
    (sSeq (sSet 6 (sO oMod (sCons true (sVar 5) (sCons true (sO (oS gLen) (sCons true (sVar 2) sNil)) sNil))))
    (sSeq (sSet 7 (sO oIx (sCons true (sVar 2) (sCons true (sVar 6) sNil))))
    (sSeq (sSet 4 (sO oMod (sCons true (sO (oS gInt) (sCons true (sO oAdd (sCons true (sO oAdd (sCons true (sO oAdd (sCons true (sO oMul (sCons true (sVar 4) (sCons true (sC (.int 48271)) sNil))) (sCons true (sO oMul (sCons true (sO oMod (sCons true (sO (oS gInt) (sCons true (sVar 7) sNil)) (sCons true (sC (.int 1000003)) sNil))) (sCons true (sC (.int 69621)) sNil))) sNil))) (sCons true (sO oMul (sCons true (sVar 5) (sCons true (sC (.int 7919)) sNil))) sNil))) (sCons true (sC (.int 11)) sNil))) sNil)) (sCons true (sC (.int 2147483647)) sNil))))
    (sSeq (sSet 8 (sO oMod (sCons true (sO (oS gInt) (sCons true (sO oAdd (sCons true (sO oAdd (sCons true (sO oMul (sCons true (sVar 4) (sCons true (sVar 4) sNil))) (sCons true (sO oMul (sCons true (sC (.int 31)) (sCons true (sVar 4) sNil))) sNil))) (sCons true (sVar 5) sNil))) sNil)) (sCons true (sC (.int 1000003)) sNil))))
    (sIfS (sTb (sO oGe (sCons true (sVar 7) (sCons true (sO oPow (sCons true (sC (.int 10)) (sCons true (sC (.int 18)) sNil))) sNil))))
      (sSeq (sApp 3 (sO oMod (sCons true (sO (oS gInt) (sCons true (sVar 7) sNil)) (sCons true (sC (.int 1000)) sNil))))
      (sSetAt 2 (sCons true (sO oDiv (sCons true (sVar 7) (sCons true (sC (.int 1000)) sNil))) (sCons true (sVar 6) sNil))))
      (sApp 3 (sO oMod (sCons true (sO (oS gInt) (sCons true (sVar 8) sNil)) (sCons true (sC (.int 1000)) sNil))))))))))
  (sSeq (sRev 3)
  (sRet (sVar 3))))))))
noncomputable def F_zlaw_draws (cn : Str → Addr) : FSem := fnOf 2 9 [] (g_zlaw_draws cn)
abbrev s_zlaw_take : Stmt := topS 18
abbrev ps_zlaw_take : List Str := ["draws", "limit"]
abbrev N_zlaw_take : List Str := ["draws", "limit"]
theorem sc_zlaw_take : FnScope N_zlaw_take ps_zlaw_take (defScope s_zlaw_take) := ⟨rfl, rfl, rfl, by decide +kernel, rfl, by decide +kernel, by decide +kernel⟩
noncomputable def g_zlaw_take (cn : Str → Addr) : SM :=
  (sSeq (sIfS (sTb (sO (oS gEq) (sCons true (sO (oS gLen) (sCons true (sVar 0) sNil)) (sCons true (sC (.int 0)) sNil))))
    (sRet (sC (.int 0)))
    sNext)
  (sRet (sO oMod (sCons true (sO (oS gInt) (sCons true (sPop 0) sNil)) (sCons true (sVar 1) sNil)))))
noncomputable def F_zlaw_take (cn : Str → Addr) : FSem := fnOf 2 2 [true] (g_zlaw_take cn)
abbrev s_zlaw_is_integer : Stmt := topS 19
abbrev ps_zlaw_is_integer : List Str := ["actual"]
abbrev N_zlaw_is_integer : List Str := ["actual"]
theorem sc_zlaw_is_integer : FnScope N_zlaw_is_integer ps_zlaw_is_integer (defScope s_zlaw_is_integer) := ⟨rfl, rfl, rfl, by decide +kernel, rfl, by decide +kernel, by decide +kernel⟩
noncomputable def g_zlaw_is_integer (cn : Str → Addr) : SM :=
  (sRet (sAndV (sO (oS (gIsi "int")) (sCons true (sVar 0) sNil)) (sO (oS gNot) (sCons true (sO (oS (gIsi "bool")) (sCons true (sVar 0) sNil)) sNil))))
noncomputable def F_zlaw_is_integer (cn : Str → Addr) : FSem := fnOf 1 1 [] (g_zlaw_is_integer cn)
abbrev s_zlaw_numbers : Stmt := topS 20
abbrev ps_zlaw_numbers : List Str := ["actual", "size", "low"]
abbrev N_zlaw_numbers : List Str := ["actual", "size", "low", "item"]
theorem sc_zlaw_numbers : FnScope N_zlaw_numbers ps_zlaw_numbers (defScope s_zlaw_numbers) := ⟨rfl, rfl, rfl, by decide +kernel, rfl, by decide +kernel, by decide +kernel⟩
noncomputable def g_zlaw_numbers (cn : Str → Addr) : SM :=
  (sSeq (sIfS (sOr (sNot (sTr (sO (oS (gIsi "tuple")) (sCons true (sVar 0) sNil)))) (sTb (sO (oS gNe) (sCons true (sO (oS gLen) (sCons true (sVar 0) sNil)) (sCons true (sVar 1) sNil)))))
    (sRet (sC (.bl false)))
    sNext)
  (sSeq (sForN 0 (gmName 3)
    (sIfS (sOr (sNot (sTr (sCallL 1 (F_zlaw_is_integer cn) (sCons true (sVar 3) sNil)))) (sTb (sO oLt (sCons true (sVar 3) (sCons true (sVar 2) sNil)))))
      (sRet (sC (.bl false)))
      sNext))
  (sRet (sC (.bl true)))))
noncomputable def F_zlaw_numbers (cn : Str → Addr) : FSem := fnOf 3 4 [] (g_zlaw_numbers cn)
abbrev s_zlaw_all_numbers : Stmt := topS 21
abbrev ps_zlaw_all_numbers : List Str := ["actual", "size", "low"]
abbrev N_zlaw_all_numbers : List Str := ["actual", "size", "low", "item"]
theorem sc_zlaw_all_numbers : FnScope N_zlaw_all_numbers ps_zlaw_all_numbers (defScope s_zlaw_all_numbers) := ⟨rfl, rfl, rfl, by decide +kernel, rfl, by decide +kernel, by decide +kernel⟩
noncomputable def g_zlaw_all_numbers (cn : Str → Addr) : SM :=
  (sSeq (sIfS (sNot (sTr (sO (oS (gIsi "list")) (sCons true (sVar 0) sNil))))
    (sRet (sC (.bl false)))
    sNext)
  (sSeq (sForN 0 (gmName 3)
    (sIfS (sNot (sTr (sCallL 3 (F_zlaw_numbers cn) (sCons true (sVar 3) (sCons true (sVar 1) (sCons true (sVar 2) sNil))))))
      (sRet (sC (.bl false)))
      sNext))
  (sRet (sC (.bl true)))))
noncomputable def F_zlaw_all_numbers (cn : Str → Addr) : FSem := fnOf 3 4 [] (g_zlaw_all_numbers cn)
abbrev s_zlaw_marking : Stmt := topS 22
abbrev ps_zlaw_marking : List Str := ["draws", "size", "most"]
abbrev N_zlaw_marking : List Str := ["draws", "size", "most", "k"]
theorem sc_zlaw_marking : FnScope N_zlaw_marking ps_zlaw_marking (defScope s_zlaw_marking) := ⟨rfl, rfl, rfl, by decide +kernel, rfl, by decide +kernel, by decide +kernel⟩
noncomputable def g_zlaw_marking (cn : Str → Addr) : SM :=
  (sRet (sO oTupOf (sCons true (sLcR [3] gRng1 (sCons true (sVar 1) sNil) (gmName 3) sYes (sCallT 2 [true] (F_zlaw_take cn) (sCons true (sVar 0) (sCons true (sO oAdd (sCons true (sVar 2) (sCons true (sC (.int 1)) sNil))) sNil)))) sNil)))
noncomputable def F_zlaw_marking (cn : Str → Addr) : FSem := fnOf 3 4 [true] (g_zlaw_marking cn)
abbrev s_zlaw_markings : Stmt := topS 23
abbrev ps_zlaw_markings : List Str := ["draws", "size", "count", "most"]
abbrev N_zlaw_markings : List Str := ["draws", "size", "count", "most", "k"]
theorem sc_zlaw_markings : FnScope N_zlaw_markings ps_zlaw_markings (defScope s_zlaw_markings) := ⟨rfl, rfl, rfl, by decide +kernel, rfl, by decide +kernel, by decide +kernel⟩
noncomputable def g_zlaw_markings (cn : Str → Addr) : SM :=
  (sRet (sLcR [4] gRng1 (sCons true (sVar 2) sNil) (gmName 4) sYes (sCallT 3 [true] (F_zlaw_marking cn) (sCons true (sVar 0) (sCons true (sVar 1) (sCons true (sVar 3) sNil))))))
noncomputable def F_zlaw_markings (cn : Str → Addr) : FSem := fnOf 4 5 [true] (g_zlaw_markings cn)
abbrev s_zlaw_covers : Stmt := topS 24
abbrev ps_zlaw_covers : List Str := ["first", "second"]
abbrev N_zlaw_covers : List Str := ["first", "second", "k"]
theorem sc_zlaw_covers : FnScope N_zlaw_covers ps_zlaw_covers (defScope s_zlaw_covers) := ⟨rfl, rfl, rfl, by decide +kernel, rfl, by decide +kernel, by decide +kernel⟩
noncomputable def g_zlaw_covers (cn : Str → Addr) : SM :=
  (sSeq (sForR gRng1 (sCons true (sO (oS gLen) (sCons true (sVar 0) sNil)) sNil) (gmName 2)
    (sIfS (sTb (sO oLt (sCons true (sO oIx (sCons true (sVar 0) (sCons true (sVar 2) sNil))) (sCons true (sO oIx (sCons true (sVar 1) (sCons true (sVar 2) sNil))) sNil))))
      (sRet (sC (.bl false)))
      sNext))
  (sRet (sC (.bl true))))
noncomputable def F_zlaw_covers (cn : Str → Addr) : FSem := fnOf 2 3 [] (g_zlaw_covers cn)
abbrev s_zlaw_inside : Stmt := topS 25
abbrev ps_zlaw_inside : List Str := ["members", "marking"]
abbrev N_zlaw_inside : List Str := ["members", "marking", "member"]
theorem sc_zlaw_inside : FnScope N_zlaw_inside ps_zlaw_inside (defScope s_zlaw_inside) := ⟨rfl, rfl, rfl, by decide +kernel, rfl, by decide +kernel, by decide +kernel⟩
noncomputable def g_zlaw_inside (cn : Str → Addr) : SM :=
  (sSeq (sForN 0 (gmName 2)
    (sIfS (sTr (sCallL 2 (F_zlaw_covers cn) (sCons true (sVar 1) (sCons true (sVar 2) sNil))))
      (sRet (sC (.bl true)))
      sNext))
  (sRet (sC (.bl false))))
noncomputable def F_zlaw_inside (cn : Str → Addr) : FSem := fnOf 2 3 [] (g_zlaw_inside cn)
abbrev s_zlaw_admits : Stmt := topS 26
abbrev ps_zlaw_admits : List Str := ["limit", "marking"]
abbrev N_zlaw_admits : List Str := ["limit", "marking", "k"]
theorem sc_zlaw_admits : FnScope N_zlaw_admits ps_zlaw_admits (defScope s_zlaw_admits) := ⟨rfl, rfl, rfl, by decide +kernel, rfl, by decide +kernel, by decide +kernel⟩
noncomputable def g_zlaw_admits (cn : Str → Addr) : SM :=
  (sSeq (sForR gRng1 (sCons true (sO (oS gLen) (sCons true (sVar 0) sNil)) sNil) (gmName 2)
    (sIfS (sAnd (sTb (sO oGe (sCons true (sO oIx (sCons true (sVar 0) (sCons true (sVar 2) sNil))) (sCons true (sC (.int 0)) sNil)))) (sTb (sO oGt (sCons true (sO oIx (sCons true (sVar 1) (sCons true (sVar 2) sNil))) (sCons true (sO oIx (sCons true (sVar 0) (sCons true (sVar 2) sNil))) sNil)))))
      (sRet (sC (.bl false)))
      sNext))
  (sRet (sC (.bl true))))
noncomputable def F_zlaw_admits (cn : Str → Addr) : FSem := fnOf 2 3 [] (g_zlaw_admits cn)
abbrev s_zlaw_admitted : Stmt := topS 27
abbrev ps_zlaw_admitted : List Str := ["limits", "marking"]
abbrev N_zlaw_admitted : List Str := ["limits", "marking", "limit"]
theorem sc_zlaw_admitted : FnScope N_zlaw_admitted ps_zlaw_admitted (defScope s_zlaw_admitted) := ⟨rfl, rfl, rfl, by decide +kernel, rfl, by decide +kernel, by decide +kernel⟩
noncomputable def g_zlaw_admitted (cn : Str → Addr) : SM :=
  (sSeq (sForN 0 (gmName 2)
    (sIfS (sTr (sCallL 2 (F_zlaw_admits cn) (sCons true (sVar 2) (sCons true (sVar 1) sNil))))
      (sRet (sC (.bl true)))
      sNext))
  (sRet (sC (.bl false))))
noncomputable def F_zlaw_admitted (cn : Str → Addr) : FSem := fnOf 2 3 [] (g_zlaw_admitted cn)
abbrev s_zlaw_within : Stmt := topS 28
abbrev ps_zlaw_within : List Str := ["first", "second"]
abbrev N_zlaw_within : List Str := ["first", "second", "k"]
theorem sc_zlaw_within : FnScope N_zlaw_within ps_zlaw_within (defScope s_zlaw_within) := ⟨rfl, rfl, rfl, by decide +kernel, rfl, by decide +kernel, by decide +kernel⟩
noncomputable def g_zlaw_within (cn : Str → Addr) : SM :=
  (sSeq (sForR gRng1 (sCons true (sO (oS gLen) (sCons true (sVar 0) sNil)) sNil) (gmName 2)
    (sIfS (sAnd (sTb (sO oGe (sCons true (sO oIx (sCons true (sVar 1) (sCons true (sVar 2) sNil))) (sCons true (sC (.int 0)) sNil)))) (sOr (sTb (sO oLt (sCons true (sO oIx (sCons true (sVar 0) (sCons true (sVar 2) sNil))) (sCons true (sC (.int 0)) sNil)))) (sTb (sO oGt (sCons true (sO oIx (sCons true (sVar 0) (sCons true (sVar 2) sNil))) (sCons true (sO oIx (sCons true (sVar 1) (sCons true (sVar 2) sNil))) sNil))))))
      (sRet (sC (.bl false)))
      sNext))
  (sRet (sC (.bl true))))
noncomputable def F_zlaw_within (cn : Str → Addr) : FSem := fnOf 2 3 [] (g_zlaw_within cn)
abbrev s_zlaw_greatest : Stmt := topS 29
abbrev ps_zlaw_greatest : List Str := ["limits"]
abbrev N_zlaw_greatest : List Str := ["limits", "found", "limit", "greater", "other"]
theorem sc_zlaw_greatest : FnScope N_zlaw_greatest ps_zlaw_greatest (defScope s_zlaw_greatest) := ⟨rfl, rfl, rfl, by decide +kernel, rfl, by decide +kernel, by decide +kernel⟩
noncomputable def g_zlaw_greatest (cn : Str → Addr) : SM :=
  (sSeq (sSet 1 (sTake hLst sNil))
  (sSeq (sFor (sO oSortSet (sCons true (sVar 0) sNil)) (gmName 2)
    (sSeq (sSet 3 (sLcN [4] 0 (gmName 4) (sAnd (sTb (sO (oS gNe) (sCons true (sVar 4) (sCons true (sVar 2) sNil)))) (sTr (sCallL 2 (F_zlaw_within cn) (sCons true (sVar 2) (sCons true (sVar 4) sNil))))) (sVar 4)))
    (sIfS (sTb (sO (oS gEq) (sCons true (sO (oS gLen) (sCons true (sVar 3) sNil)) (sCons true (sC (.int 0)) sNil))))
      (sApp 1 (sVar 2))
      sNext)))
  (sRet (sVar 1))))
noncomputable def F_zlaw_greatest (cn : Str → Addr) : FSem := fnOf 1 5 [] (g_zlaw_greatest cn)
abbrev s_zlaw_box : Stmt := topS 30
abbrev ps_zlaw_box : List Str := ["size", "most"]
abbrev N_zlaw_box : List Str := ["size", "most", "found", "k", "longer", "marking", "number"]
theorem sc_zlaw_box : FnScope N_zlaw_box ps_zlaw_box (defScope s_zlaw_box) := ⟨rfl, rfl, rfl, by decide +kernel, rfl, by decide +kernel, by decide +kernel⟩
noncomputable def g_zlaw_box (cn : Str → Addr) : SM :=
  (sSeq (sSet 2 (sTake hLst (sCons true (sTake hTup sNil) sNil)))
  (sSeq (sForR gRng1 (sCons true (sVar 0) sNil) (gmName 3)
    (sSeq (sSet 4 (sTake hLst sNil))
    (sSeq (sForN 2 (gmName 5)
      (sForR gRng1 (sCons true (sO oAdd (sCons true (sVar 1) (sCons true (sC (.int 1)) sNil))) sNil) (gmName 6)
        (sApp 4 (sO oAdd (sCons false (sVar 5) (sCons true (sTake hTup (sCons true (sVar 6) sNil)) sNil))))))
    (sSetM 2 (sVar 4)))))
  (sRet (sVar 2))))
noncomputable def F_zlaw_box (cn : Str → Addr) : FSem := fnOf 2 7 [] (g_zlaw_box cn)
abbrev s_zlaw_first_half : Stmt := topS 34
abbrev ps_zlaw_first_half : List Str := ["script"]
abbrev N_zlaw_first_half : List Str := ["script", "draws", "size", "members", "found", "marking", "limit", "member", "place", "more"]
theorem sc_zlaw_first_half : FnScope N_zlaw_first_half ps_zlaw_first_half (defScope s_zlaw_first_half) := ⟨rfl, rfl, rfl, by decide +kernel, rfl, by decide +kernel, by decide +kernel⟩
noncomputable def g_zlaw_first_half (cn : Str → Addr) : SM :=
  (sSeq (sSet 1 (sCallL 2 (F_zlaw_draws cn) (sCons true (sVar 0) (sCons true (sC (.int 60)) sNil))))
  (sSeq (sSet 2 (sO oAdd (sCons false (sC (.int 1)) (sCons true (sCallT 2 [true] (F_zlaw_take cn) (sCons true (sVar 1) (sCons true (sC (.int 3)) sNil))) sNil))))
  (sSeq (sSet 3 (sCallT 4 [true] (F_zlaw_markings cn) (sCons false (sVar 1) (sCons false (sVar 2) (sCons true (sCallT 2 [true] (F_zlaw_take cn) (sCons true (sVar 1) (sCons true (sC (.int 5)) sNil))) (sCons true (sC (.int 3)) sNil))))))
  (sSeq (sIfS (sTb (sO (oS gEq) (sCons true (sCallT 2 [true] (F_zlaw_take cn) (sCons true (sVar 1) (sCons true (sC (.int 12)) sNil))) (sCons true (sC (.int 0)) sNil))))
    (sApp 3 (sO oMulT (sCons true (sO oTup (sCons true (sC (.int 0)) sNil)) (sCons true (sVar 2) sNil))))
    sNext)
  (sSeq (sSet 4 (sCallL 2 (F_complement_closed cn) (sCons true (sO oListOf (sCons true (sVar 3) sNil)) (sCons true (sVar 2) sNil))))
  (sSeq (sIfS (sOr (sNot (sTr (sCallL 3 (F_zlaw_all_numbers cn) (sCons true (sVar 4) (sCons true (sVar 2) (sCons true (sO (oS gNeg) (sCons true (sC (.int 1)) sNil)) sNil)))))) (sTb (sO (oS gNe) (sCons true (sVar 4) (sCons true (sCallL 1 (F_zlaw_greatest cn) (sCons true (sVar 4) sNil)) sNil)))))
    (sRet (sC (.bl false)))
    sNext)
  (sSeq (sFor (sCallL 2 (F_zlaw_box cn) (sCons true (sVar 2) (sCons true (sC (.int 4)) sNil))) (gmName 5)
    (sIfS (sTb (sO (oS gEq) (sCons true (sCallL 2 (F_zlaw_admitted cn) (sCons true (sVar 4) (sCons true (sVar 5) sNil))) (sCons true (sCallL 2 (F_zlaw_inside cn) (sCons true (sVar 3) (sCons true (sVar 5) sNil))) sNil))))
      (sRet (sC (.bl false)))
      sNext))
  (sSeq (sForN 4 (gmName 6)
    (sSeq (sForN 3 (gmName 7)
      (sIfS (sTr (sCallL 2 (F_zlaw_admits cn) (sCons true (sVar 6) (sCons true (sVar 7) sNil))))
        (sRet (sC (.bl false)))
        sNext))
    (sForR gRng1 (sCons true (sVar 2) sNil) (gmName 8)
      (sIfS (sTb (sO oGe (sCons true (sO oIx (sCons true (sVar 6) (sCons true (sVar 8) sNil))) (sCons true (sC (.int 0)) sNil))))
        (sSeq (sSet 9 (sO oAdd (sCons true (sO oAdd (sCons false (sSl (sVar 6) moN (moS (sVar 8))) (sCons true (sTake hTup (sCons true (sO oAdd (sCons true (sO oIx (sCons true (sVar 6) (sCons true (sVar 8) sNil))) (sCons true (sC (.int 1)) sNil))) sNil)) sNil))) (sCons true (sSl (sVar 6) (moS (sO oAdd (sCons true (sVar 8) (sCons true (sC (.int 1)) sNil)))) moN) sNil))))
        (sIfS (sTb (sO (oS gEq) (sCons true (sO (oS gLen) (sCons true (sLcN [7] 3 (gmName 7) (sTr (sCallL 2 (F_zlaw_admits cn) (sCons true (sVar 9) (sCons true (sVar 7) sNil)))) (sVar 7)) sNil)) (sCons true (sC (.int 0)) sNil))))
          (sRet (sC (.bl false)))
          sNext))
        sNext))))
  (sRet (sC (.bl true)))))))))))
noncomputable def F_zlaw_first_half (cn : Str → Addr) : FSem := fnOf 1 10 [] (g_zlaw_first_half cn)
abbrev s_covers : Stmt := topS 1
abbrev ps_covers : List Str := ["first", "second"]
abbrev N_covers : List Str := ["first", "second", "k"]
theorem sc_covers : FnScope N_covers ps_covers (defScope s_covers) := ⟨rfl, rfl, rfl, by decide +kernel, rfl, by decide +kernel, by decide +kernel⟩
noncomputable def g_covers (cn : Str → Addr) : SM :=
  (sSeq (sForR gRng1 (sCons true (sO (oS gLen) (sCons true (sVar 0) sNil)) sNil) (gmName 2)
    (sIfS (sTb (sO oLt (sCons true (sO oIx (sCons true (sVar 0) (sCons true (sVar 2) sNil))) (sCons true (sO oIx (sCons true (sVar 1) (sCons true (sVar 2) sNil))) sNil))))
      (sRet (sC (.bl false)))
      sNext))
  (sRet (sC (.bl true))))
noncomputable def F_covers (cn : Str → Addr) : FSem := fnOf 2 3 [] (g_covers cn)
abbrev s_basis_of : Stmt := topS 2
abbrev ps_basis_of : List Str := ["members"]
abbrev N_basis_of : List Str := ["members", "found", "member", "least", "other"]
theorem sc_basis_of : FnScope N_basis_of ps_basis_of (defScope s_basis_of) := ⟨rfl, rfl, rfl, by decide +kernel, rfl, by decide +kernel, by decide +kernel⟩
noncomputable def g_basis_of (cn : Str → Addr) : SM :=
  (sSeq (sSet 1 (sTake hLst sNil))
  (sSeq (sFor (sO oSortSet (sCons true (sVar 0) sNil)) (gmName 2)
    (sSeq (sSet 3 (sC (.bl true)))
    (sSeq (sForN 1 (gmName 4)
      (sSet 3 (sAndV (sVar 3) (sO (oS gNot) (sCons true (sCallL 2 (F_covers cn) (sCons true (sVar 2) (sCons true (sVar 4) sNil))) sNil)))))
    (sIfS (sTr (sVar 3))
      (sApp 1 (sVar 2))
      sNext))))
  (sRet (sVar 1))))
noncomputable def F_basis_of (cn : Str → Addr) : FSem := fnOf 1 5 [] (g_basis_of cn)
abbrev s_join : Stmt := topS 3
abbrev ps_join : List Str := ["first", "second"]
abbrev N_join : List Str := ["first", "second", "k"]
theorem sc_join : FnScope N_join ps_join (defScope s_join) := ⟨rfl, rfl, rfl, by decide +kernel, rfl, by decide +kernel, by decide +kernel⟩
noncomputable def g_join (cn : Str → Addr) : SM :=
  (sRet (sO oTupOf (sCons true (sLcR [2] gRng1 (sCons true (sO (oS gLen) (sCons true (sVar 0) sNil)) sNil) (gmName 2) sYes (sO oMax2 (sCons true (sO oIx (sCons true (sVar 0) (sCons true (sVar 2) sNil))) (sCons true (sO oIx (sCons true (sVar 1) (sCons true (sVar 2) sNil))) sNil)))) sNil)))
noncomputable def F_join (cn : Str → Addr) : FSem := fnOf 2 3 [] (g_join cn)
abbrev s_meet : Stmt := topS 4
abbrev ps_meet : List Str := ["first", "second"]
abbrev N_meet : List Str := ["first", "second", "found", "one", "other"]
theorem sc_meet : FnScope N_meet ps_meet (defScope s_meet) := ⟨rfl, rfl, rfl, by decide +kernel, rfl, by decide +kernel, by decide +kernel⟩
noncomputable def g_meet (cn : Str → Addr) : SM :=
  (sSeq (sSet 2 (sTake hLst sNil))
  (sSeq (sForN 0 (gmName 3)
    (sForN 1 (gmName 4)
      (sApp 2 (sCallL 2 (F_join cn) (sCons true (sVar 3) (sCons true (sVar 4) sNil))))))
  (sRet (sCallL 1 (F_basis_of cn) (sCons true (sVar 2) sNil)))))
noncomputable def F_meet (cn : Str → Addr) : FSem := fnOf 2 5 [] (g_meet cn)
abbrev s_complement_frame : Stmt := topS 15
abbrev ps_complement_frame : List Str := ["limits", "size"]
abbrev N_complement_frame : List Str := ["limits", "size", "found", "limit", "above", "place"]
theorem sc_complement_frame : FnScope N_complement_frame ps_complement_frame (defScope s_complement_frame) := ⟨rfl, rfl, rfl, by decide +kernel, rfl, by decide +kernel, by decide +kernel⟩
noncomputable def g_complement_frame (cn : Str → Addr) : SM :=
  (sSeq (sSet 2 (sTake hLst (sCons true (sO oMulT (sCons true (sO oTup (sCons true (sC (.int 0)) sNil)) (sCons true (sVar 1) sNil))) sNil)))
  (sSeq (sForN 0 (gmName 3)
    (sSeq (sSet 4 (sTake hLst sNil))
    (sSeq (sForR gRng1 (sCons true (sVar 1) sNil) (gmName 5)
      (sIfS (sTb (sO (oS gNe) (sCons true (sO oIx (sCons true (sVar 3) (sCons true (sVar 5) sNil))) (sCons true (sC (.int (-1))) sNil))))
        (sApp 4 (sCallL 4 (F_single cn) (sCons true (sVar 1) (sCons true (sVar 5) (sCons true (sO oAdd (sCons true (sO oIx (sCons true (sVar 3) (sCons true (sVar 5) sNil))) (sCons true (sC (.int 1)) sNil))) (sCons true (sC (.int 0)) sNil))))))
        sNext))
    (sSet 2 (sCallL 2 (F_meet cn) (sCons true (sVar 2) (sCons true (sVar 4) sNil)))))))
  (sRet (sVar 2))))
noncomputable def F_complement_frame (cn : Str → Addr) : FSem := fnOf 2 6 [] (g_complement_frame cn)
abbrev s_zlaw_least : Stmt := topS 31
abbrev ps_zlaw_least : List Str := ["members"]
abbrev N_zlaw_least : List Str := ["members", "found", "member", "smaller", "other"]
theorem sc_zlaw_least : FnScope N_zlaw_least ps_zlaw_least (defScope s_zlaw_least) := ⟨rfl, rfl, rfl, by decide +kernel, rfl, by decide +kernel, by decide +kernel⟩
noncomputable def g_zlaw_least (cn : Str → Addr) : SM :=
  (sSeq (sSet 1 (sTake hLst sNil))
  (sSeq (sFor (sO oSortSet (sCons true (sVar 0) sNil)) (gmName 2)
    (sSeq (sSet 3 (sLcN [4] 0 (gmName 4) (sAnd (sTb (sO (oS gNe) (sCons true (sVar 4) (sCons true (sVar 2) sNil)))) (sTr (sCallL 2 (F_zlaw_covers cn) (sCons true (sVar 2) (sCons true (sVar 4) sNil))))) (sVar 4)))
    (sIfS (sTb (sO (oS gEq) (sCons true (sO (oS gLen) (sCons true (sVar 3) sNil)) (sCons true (sC (.int 0)) sNil))))
      (sApp 1 (sVar 2))
      sNext)))
  (sRet (sVar 1))))
noncomputable def F_zlaw_least (cn : Str → Addr) : FSem := fnOf 1 5 [] (g_zlaw_least cn)
abbrev s_zlaw_limit : Stmt := topS 32
abbrev ps_zlaw_limit : List Str := ["draws", "size", "most"]
abbrev N_zlaw_limit : List Str := ["draws", "size", "most", "k"]
theorem sc_zlaw_limit : FnScope N_zlaw_limit ps_zlaw_limit (defScope s_zlaw_limit) := ⟨rfl, rfl, rfl, by decide +kernel, rfl, by decide +kernel, by decide +kernel⟩
noncomputable def g_zlaw_limit (cn : Str → Addr) : SM :=
  (sRet (sO oTupOf (sCons true (sLcR [3] gRng1 (sCons true (sVar 1) sNil) (gmName 3) sYes (sO oSub (sCons true (sCallT 2 [true] (F_zlaw_take cn) (sCons true (sVar 0) (sCons true (sO oAdd (sCons true (sVar 2) (sCons true (sC (.int 2)) sNil))) sNil))) (sCons true (sC (.int 1)) sNil)))) sNil)))
noncomputable def F_zlaw_limit (cn : Str → Addr) : FSem := fnOf 3 4 [true] (g_zlaw_limit cn)
abbrev s_zlaw_limits : Stmt := topS 33
abbrev ps_zlaw_limits : List Str := ["draws", "size", "count", "most"]
abbrev N_zlaw_limits : List Str := ["draws", "size", "count", "most", "k"]
theorem sc_zlaw_limits : FnScope N_zlaw_limits ps_zlaw_limits (defScope s_zlaw_limits) := ⟨rfl, rfl, rfl, by decide +kernel, rfl, by decide +kernel, by decide +kernel⟩
noncomputable def g_zlaw_limits (cn : Str → Addr) : SM :=
  (sRet (sLcR [4] gRng1 (sCons true (sVar 2) sNil) (gmName 4) sYes (sCallT 3 [true] (F_zlaw_limit cn) (sCons true (sVar 0) (sCons true (sVar 1) (sCons true (sVar 3) sNil))))))
noncomputable def F_zlaw_limits (cn : Str → Addr) : FSem := fnOf 4 5 [true] (g_zlaw_limits cn)
abbrev s_zlaw_second_half : Stmt := topS 35
abbrev ps_zlaw_second_half : List Str := ["script"]
abbrev N_zlaw_second_half : List Str := ["script", "draws", "size", "limits", "found", "marking", "member", "place", "less"]
theorem sc_zlaw_second_half : FnScope N_zlaw_second_half ps_zlaw_second_half (defScope s_zlaw_second_half) := ⟨rfl, rfl, rfl, by decide +kernel, rfl, by decide +kernel, by decide +kernel⟩
noncomputable def g_zlaw_second_half (cn : Str → Addr) : SM :=
  (sSeq (sSet 1 (sCallL 2 (F_zlaw_draws cn) (sCons true (sVar 0) (sCons true (sC (.int 60)) sNil))))
  (sSeq (sSet 2 (sO oAdd (sCons false (sC (.int 1)) (sCons true (sCallT 2 [true] (F_zlaw_take cn) (sCons true (sVar 1) (sCons true (sC (.int 3)) sNil))) sNil))))
  (sSeq (sSet 3 (sCallT 4 [true] (F_zlaw_limits cn) (sCons false (sVar 1) (sCons false (sVar 2) (sCons true (sCallT 2 [true] (F_zlaw_take cn) (sCons true (sVar 1) (sCons true (sC (.int 5)) sNil))) (sCons true (sC (.int 3)) sNil))))))
  (sSeq (sSet 4 (sCallL 2 (F_complement_frame cn) (sCons true (sO oListOf (sCons true (sVar 3) sNil)) (sCons true (sVar 2) sNil))))
  (sSeq (sIfS (sOr (sNot (sTr (sCallL 3 (F_zlaw_all_numbers cn) (sCons true (sVar 4) (sCons true (sVar 2) (sCons true (sC (.int 0)) sNil)))))) (sTb (sO (oS gNe) (sCons true (sVar 4) (sCons true (sCallL 1 (F_zlaw_least cn) (sCons true (sVar 4) sNil)) sNil)))))
    (sRet (sC (.bl false)))
    sNext)
  (sSeq (sFor (sCallL 2 (F_zlaw_box cn) (sCons true (sVar 2) (sCons true (sC (.int 5)) sNil))) (gmName 5)
    (sIfS (sTb (sO (oS gEq) (sCons true (sCallL 2 (F_zlaw_inside cn) (sCons true (sVar 4) (sCons true (sVar 5) sNil))) (sCons true (sCallL 2 (F_zlaw_admitted cn) (sCons true (sVar 3) (sCons true (sVar 5) sNil))) sNil))))
      (sRet (sC (.bl false)))
      sNext))
  (sSeq (sForN 4 (gmName 6)
    (sSeq (sIfS (sTr (sCallL 2 (F_zlaw_admitted cn) (sCons true (sVar 3) (sCons true (sVar 6) sNil))))
      (sRet (sC (.bl false)))
      sNext)
    (sForR gRng1 (sCons true (sVar 2) sNil) (gmName 7)
      (sSeq (sSet 8 (sO oAdd (sCons true (sO oAdd (sCons false (sSl (sVar 6) moN (moS (sVar 7))) (sCons true (sTake hTup (sCons true (sO oSub (sCons true (sO oIx (sCons true (sVar 6) (sCons true (sVar 7) sNil))) (sCons true (sC (.int 1)) sNil))) sNil)) sNil))) (sCons true (sSl (sVar 6) (moS (sO oAdd (sCons true (sVar 7) (sCons true (sC (.int 1)) sNil)))) moN) sNil))))
      (sIfS (sAnd (sTb (sO oGt (sCons true (sO oIx (sCons true (sVar 6) (sCons true (sVar 7) sNil))) (sCons true (sC (.int 0)) sNil)))) (sNot (sTr (sCallL 2 (F_zlaw_admitted cn) (sCons true (sVar 3) (sCons true (sVar 8) sNil))))))
        (sRet (sC (.bl false)))
        sNext)))))
  (sRet (sC (.bl true))))))))))
noncomputable def F_zlaw_second_half (cn : Str → Addr) : FSem := fnOf 1 9 [] (g_zlaw_second_half cn)
abbrev s_law : Stmt := topS 36
abbrev ps_law : List Str := ["script"]
abbrev N_law : List Str := ["script"]
theorem sc_law : FnScope N_law ps_law (defScope s_law) := ⟨rfl, rfl, rfl, by decide +kernel, rfl, by decide +kernel, by decide +kernel⟩
noncomputable def g_law (cn : Str → Addr) : SM :=
  (sRet (sAndV (sO (oS gIs) (sCons true (sCallL 1 (F_zlaw_first_half cn) (sCons true (sVar 0) sNil)) (sCons true (sC (.bl true)) sNil))) (sO (oS gIs) (sCons true (sCallL 1 (F_zlaw_second_half cn) (sCons true (sVar 0) sNil)) (sCons true (sC (.bl true)) sNil)))))
noncomputable def F_law (cn : Str → Addr) : FSem := fnOf 1 1 [] (g_law cn)
/-- what the top has bound -/
structure Txt (K : PySem.W.Frag) (mg : Str → Option Value) where
  cn : Str → Addr
  a_within : Addr
  fd_within : FuncData
  d_within : DefAt K mg "within" s_within ps_within a_within fd_within
  a_frame_of : Addr
  fd_frame_of : FuncData
  d_frame_of : DefAt K mg "frame_of" s_frame_of ps_frame_of a_frame_of fd_frame_of
  a_lesser : Addr
  fd_lesser : FuncData
  d_lesser : DefAt K mg "lesser" s_lesser ps_lesser a_lesser fd_lesser
  a_limit_meet : Addr
  fd_limit_meet : FuncData
  d_limit_meet : DefAt K mg "limit_meet" s_limit_meet ps_limit_meet a_limit_meet fd_limit_meet
  a_frame_meet : Addr
  fd_frame_meet : FuncData
  d_frame_meet : DefAt K mg "frame_meet" s_frame_meet ps_frame_meet a_frame_meet fd_frame_meet
  a_single : Addr
  fd_single : FuncData
  d_single : DefAt K mg "single" s_single ps_single a_single fd_single
  a_complement_closed : Addr
  fd_complement_closed : FuncData
  d_complement_closed : DefAt K mg "complement_closed" s_complement_closed ps_complement_closed a_complement_closed fd_complement_closed
  a_zlaw_draws : Addr
  fd_zlaw_draws : FuncData
  d_zlaw_draws : DefAt K mg "_law_draws" s_zlaw_draws ps_zlaw_draws a_zlaw_draws fd_zlaw_draws
  a_zlaw_take : Addr
  fd_zlaw_take : FuncData
  d_zlaw_take : DefAt K mg "_law_take" s_zlaw_take ps_zlaw_take a_zlaw_take fd_zlaw_take
  a_zlaw_is_integer : Addr
  fd_zlaw_is_integer : FuncData
  d_zlaw_is_integer : DefAt K mg "_law_is_integer" s_zlaw_is_integer ps_zlaw_is_integer a_zlaw_is_integer fd_zlaw_is_integer
  a_zlaw_numbers : Addr
  fd_zlaw_numbers : FuncData
  d_zlaw_numbers : DefAt K mg "_law_numbers" s_zlaw_numbers ps_zlaw_numbers a_zlaw_numbers fd_zlaw_numbers
  a_zlaw_all_numbers : Addr
  fd_zlaw_all_numbers : FuncData
  d_zlaw_all_numbers : DefAt K mg "_law_all_numbers" s_zlaw_all_numbers ps_zlaw_all_numbers a_zlaw_all_numbers fd_zlaw_all_numbers
  a_zlaw_marking : Addr
  fd_zlaw_marking : FuncData
  d_zlaw_marking : DefAt K mg "_law_marking" s_zlaw_marking ps_zlaw_marking a_zlaw_marking fd_zlaw_marking
  a_zlaw_markings : Addr
  fd_zlaw_markings : FuncData
  d_zlaw_markings : DefAt K mg "_law_markings" s_zlaw_markings ps_zlaw_markings a_zlaw_markings fd_zlaw_markings
  a_zlaw_covers : Addr
  fd_zlaw_covers : FuncData
  d_zlaw_covers : DefAt K mg "_law_covers" s_zlaw_covers ps_zlaw_covers a_zlaw_covers fd_zlaw_covers
  a_zlaw_inside : Addr
  fd_zlaw_inside : FuncData
  d_zlaw_inside : DefAt K mg "_law_inside" s_zlaw_inside ps_zlaw_inside a_zlaw_inside fd_zlaw_inside
  a_zlaw_admits : Addr
  fd_zlaw_admits : FuncData
  d_zlaw_admits : DefAt K mg "_law_admits" s_zlaw_admits ps_zlaw_admits a_zlaw_admits fd_zlaw_admits
  a_zlaw_admitted : Addr
  fd_zlaw_admitted : FuncData
  d_zlaw_admitted : DefAt K mg "_law_admitted" s_zlaw_admitted ps_zlaw_admitted a_zlaw_admitted fd_zlaw_admitted
  a_zlaw_within : Addr
  fd_zlaw_within : FuncData
  d_zlaw_within : DefAt K mg "_law_within" s_zlaw_within ps_zlaw_within a_zlaw_within fd_zlaw_within
  a_zlaw_greatest : Addr
  fd_zlaw_greatest : FuncData
  d_zlaw_greatest : DefAt K mg "_law_greatest" s_zlaw_greatest ps_zlaw_greatest a_zlaw_greatest fd_zlaw_greatest
  a_zlaw_box : Addr
  fd_zlaw_box : FuncData
  d_zlaw_box : DefAt K mg "_law_box" s_zlaw_box ps_zlaw_box a_zlaw_box fd_zlaw_box
  a_zlaw_first_half : Addr
  fd_zlaw_first_half : FuncData
  d_zlaw_first_half : DefAt K mg "_law_first_half" s_zlaw_first_half ps_zlaw_first_half a_zlaw_first_half fd_zlaw_first_half
  a_covers : Addr
  fd_covers : FuncData
  d_covers : DefAt K mg "covers" s_covers ps_covers a_covers fd_covers
  a_basis_of : Addr
  fd_basis_of : FuncData
  d_basis_of : DefAt K mg "basis_of" s_basis_of ps_basis_of a_basis_of fd_basis_of
  a_join : Addr
  fd_join : FuncData
  d_join : DefAt K mg "join" s_join ps_join a_join fd_join
  a_meet : Addr
  fd_meet : FuncData
  d_meet : DefAt K mg "meet" s_meet ps_meet a_meet fd_meet
  a_complement_frame : Addr
  fd_complement_frame : FuncData
  d_complement_frame : DefAt K mg "complement_frame" s_complement_frame ps_complement_frame a_complement_frame fd_complement_frame
  a_zlaw_least : Addr
  fd_zlaw_least : FuncData
  d_zlaw_least : DefAt K mg "_law_least" s_zlaw_least ps_zlaw_least a_zlaw_least fd_zlaw_least
  a_zlaw_limit : Addr
  fd_zlaw_limit : FuncData
  d_zlaw_limit : DefAt K mg "_law_limit" s_zlaw_limit ps_zlaw_limit a_zlaw_limit fd_zlaw_limit
  a_zlaw_limits : Addr
  fd_zlaw_limits : FuncData
  d_zlaw_limits : DefAt K mg "_law_limits" s_zlaw_limits ps_zlaw_limits a_zlaw_limits fd_zlaw_limits
  a_zlaw_second_half : Addr
  fd_zlaw_second_half : FuncData
  d_zlaw_second_half : DefAt K mg "_law_second_half" s_zlaw_second_half ps_zlaw_second_half a_zlaw_second_half fd_zlaw_second_half
  a_law : Addr
  fd_law : FuncData
  d_law : DefAt K mg "law" s_law ps_law a_law fd_law
  b_bool : mg "bool" = none
  b_int : mg "int" = none
  b_isinstance : mg "isinstance" = none
  b_len : mg "len" = none
  b_list : mg "list" = none
  b_max : mg "max" = none
  b_min : mg "min" = none
  b_range : mg "range" = none
  b_set : mg "set" = none
  b_sorted : mg "sorted" = none
  b_tuple : mg "tuple" = none
  i_ANY : ∃ t, mg "ANY" = some (.int (-1) t)
  bl : ∀ (s : Shared) (v : Value), BindsTo s fd_law ⟨[v], []⟩ [("script", v)]
section
variable {P : Program} {w : World} {K : PySem.W.Frag} {mg : Str → Option Value} {base : Heap}
theorem ok_within (T : Txt K mg) : FnOk P w K mg base (L2.CX P w) 1 T.a_within T.fd_within ps_within (spF K 2 [] (F_within T.cn)) :=
  def_okD (k := 0) T.d_within sc_within (by decide) (by decide) fun cdv A outer s H E hr =>
  (psq_cons (psq_forR1 (passes_of rfl) (by rfl) (by rfl) T.b_range (paq_cons (pq_len1 (by rfl) T.b_len (pq_var (p := true) 0 (pv 0))) (paq_nil (p := true))) (pgq_name sc_within.nd (i := 2) (by rfl) (by first | exact .inl rfl | exact .inr rfl))
    (psq_one (psq_if (ptq_w (pwq_and (ptq_ne hr (pq_ix (pq_var (p := true) 1 (pv 1)) (pq_var (p := true) 2 (pv 2))) (pq_gi (p := true) (by rfl) T.i_ANY)) (pwq_and1 (ptq_w (pwq_or (ptq_eq hr (pq_ix (pq_var (p := true) 0 (pv 0)) (pq_var (p := true) 2 (pv 2))) (pq_gi (p := true) (by rfl) T.i_ANY)) (pwq_or1 (ptq_gt (pq_ix (pq_var (p := true) 0 (pv 0)) (pq_var (p := true) 2 (pv 2))) (pq_ix (pq_var (p := true) 1 (pv 1)) (pq_var (p := true) 2 (pv 2))))))))))
      (psq_one (psq_ret (pq_bl (p := true))))
      psq_nil)))
  (psq_one (psq_ret (pq_bl (p := true)))))
theorem ok_frame_of (T : Txt K mg) : FnOk P w K mg base (L2.CX P w) 2 T.a_frame_of T.fd_frame_of ps_frame_of (spF K 1 [] (F_frame_of T.cn)) :=
  def_okD (k := 1) T.d_frame_of sc_frame_of (by decide) (by decide) fun cdv A outer s H E hr =>
  (psq_cons (psq_set sc_frame_of.nd (i := 1) (by rfl) (by first | exact .inl rfl | exact .inr rfl) (pq_lst paq_nil (p := true)))
  (psq_cons (psq_forE (passes_of rfl) (by rfl) (pq_sortSet (by rfl) hr (by rfl) T.b_sorted (by rfl) T.b_set (pq_var (p := true) 0 (pv 0))) (pgq_name sc_frame_of.nd (i := 2) (by rfl) (by first | exact .inl rfl | exact .inr rfl))
    (psq_cons (psq_set sc_frame_of.nd (i := 3) (by rfl) (by first | exact .inl rfl | exact .inr rfl) (pq_bl (p := true)))
    (psq_cons (psq_forN (passes_of rfl) (by rfl) (pv 0) (pgq_name sc_frame_of.nd (i := 4) (by rfl) (by first | exact .inl rfl | exact .inr rfl))
      (psq_one (psq_if (ptq_w (pwq_and (ptq_ne hr (pq_var (p := true) 4 (pv 4)) (pq_var (p := true) 2 (pv 2))) (pwq_and1 (ptq_tr (pq_callL (takes_of rfl rfl rfl rfl) (ok_within T) (hr.mono (by decide)) (by rfl) T.d_within.mg T.d_within.fn.kp T.d_within.b (paq_cons (pq_var (p := true) 2 (pv 2)) (paq_cons (pq_var (p := true) 4 (pv 4)) (paq_nil (p := true)))))))))
        (psq_one (psq_set sc_frame_of.nd (i := 3) (by rfl) (by first | exact .inl rfl | exact .inr rfl) (pq_bl (p := true))))
        psq_nil)))
    (psq_one (psq_if (ptq_tr (pq_var (p := true) 3 (pv 3)))
      (psq_one (psq_append (pv 1) (pq_var (p := true) 2 (pv 2))))
      psq_nil)))))
  (psq_one (psq_ret (pq_var (p := true) 1 (pv 1))))))
theorem ok_lesser (T : Txt K mg) : FnOk P w K mg base (L2.CX P w) 1 T.a_lesser T.fd_lesser ps_lesser (spF K 2 [] (F_lesser T.cn)) :=
  def_okD (k := 0) T.d_lesser sc_lesser (by decide) (by decide) fun cdv A outer s H E hr =>
  (psq_cons (psq_if (ptq_eq hr (pq_var (p := true) 0 (pv 0)) (pq_gi (p := true) (by rfl) T.i_ANY))
    (psq_one (psq_ret (pq_var (p := true) 1 (pv 1))))
    psq_nil)
  (psq_cons (psq_if (ptq_eq hr (pq_var (p := true) 1 (pv 1)) (pq_gi (p := true) (by rfl) T.i_ANY))
    (psq_one (psq_ret (pq_var (p := true) 0 (pv 0))))
    psq_nil)
  (psq_one (psq_ret (pq_min2 (by rfl) (by rfl) T.b_min (pq_var (p := true) 0 (pv 0)) (pq_var (p := true) 1 (pv 1)))))))
theorem ok_limit_meet (T : Txt K mg) : FnOk P w K mg base (L2.CX P w) 2 T.a_limit_meet T.fd_limit_meet ps_limit_meet (spF K 2 [] (F_limit_meet T.cn)) :=
  def_okD (k := 1) T.d_limit_meet sc_limit_meet (by decide) (by decide) fun cdv A outer s H E hr =>
  (psq_one (psq_ret (pq_tuple (by rfl) T.b_tuple (pq_lcR1 (own := [("k", 2)]) (by rfl) sc_limit_meet.nd (by rfl) T.b_range (paq_cons (pq_len1 (by rfl) T.b_len (pq_var (p := true) 0 (pv 0))) (paq_nil (p := true))) (blkOk_by (N := N_limit_meet) (sc := defScope s_limit_meet) (own := [("k", 2)]) (by decide +kernel)) (P' := [0, 1]) (m := 3) (by decide) (fun _ _ _ _ _ => (pgq_name sc_limit_meet.nd (i := 2) (by rfl) (by first | exact .inl rfl | exact .inr rfl))) (fun _ _ _ _ _ => (ptsq_nil (p := true))) (fun _ _ _ _ _ => (pq_callL takes0 (ok_lesser T) (hr.mono (by decide)) (by rfl) T.d_lesser.mg T.d_lesser.fn.kp T.d_lesser.b (paq_cons (pq_ix (pq_var (p := true) 0 (pv 0)) (pq_var (p := true) 2 (pv 2))) (paq_cons (pq_ix (pq_var (p := true) 1 (pv 1)) (pq_var (p := true) 2 (pv 2))) (paq_nil (p := true))))))))))
theorem ok_frame_meet (T : Txt K mg) : FnOk P w K mg base (L2.CX P w) 3 T.a_frame_meet T.fd_frame_meet ps_frame_meet (spF K 2 [] (F_frame_meet T.cn)) :=
  def_okD (k := 2) T.d_frame_meet sc_frame_meet (by decide) (by decide) fun cdv A outer s H E hr =>
  (psq_cons (psq_set sc_frame_meet.nd (i := 2) (by rfl) (by first | exact .inl rfl | exact .inr rfl) (pq_lst paq_nil (p := true)))
  (psq_cons (psq_forN (passes_of rfl) (by rfl) (pv 0) (pgq_name sc_frame_meet.nd (i := 3) (by rfl) (by first | exact .inl rfl | exact .inr rfl))
    (psq_one (psq_forN (passes_of rfl) (by rfl) (pv 1) (pgq_name sc_frame_meet.nd (i := 4) (by rfl) (by first | exact .inl rfl | exact .inr rfl))
      (psq_one (psq_append (pv 2) (pq_callL (takes_of rfl rfl rfl rfl) (ok_limit_meet T) (hr.mono (by decide)) (by rfl) T.d_limit_meet.mg T.d_limit_meet.fn.kp T.d_limit_meet.b (paq_cons (pq_var (p := true) 3 (pv 3)) (paq_cons (pq_var (p := true) 4 (pv 4)) (paq_nil (p := true))))))))))
  (psq_one (psq_ret (pq_callL (takes_of rfl rfl rfl rfl) (ok_frame_of T) (hr.mono (by decide)) (by rfl) T.d_frame_of.mg T.d_frame_of.fn.kp T.d_frame_of.b (paq_cons (pq_var (p := true) 2 (pv 2)) (paq_nil (p := true))))))))
theorem ok_single (T : Txt K mg) : FnOk P w K mg base (L2.CX P w) 1 T.a_single T.fd_single ps_single (spF K 4 [] (F_single T.cn)) :=
  def_okD (k := 0) T.d_single sc_single (by decide) (by decide) fun cdv A outer s H E hr =>
  (psq_cons (psq_set sc_single.nd (i := 4) (by rfl) (by first | exact .inl rfl | exact .inr rfl) (pq_mul (pq_lst (paq_cons (pq_var (p := true) 3 (pv 3)) (paq_nil (p := true)))) (pq_var (p := true) 0 (pv 0))))
  (psq_cons (psq_setAt (pv 4) (pq_var (p := true) 1 (pv 1)) (pq_var (p := true) 2 (pv 2)))
  (psq_one (psq_ret (pq_tuple (by rfl) T.b_tuple (pq_var (p := true) 4 (pv 4)))))))
theorem ok_complement_closed (T : Txt K mg) : FnOk P w K mg base (L2.CX P w) 4 T.a_complement_closed T.fd_complement_closed ps_complement_closed (spF K 2 [] (F_complement_closed T.cn)) :=
  def_okD (k := 3) T.d_complement_closed sc_complement_closed (by decide) (by decide) fun cdv A outer s H E hr =>
  (psq_cons (psq_set sc_complement_closed.nd (i := 2) (by rfl) (by first | exact .inl rfl | exact .inr rfl) (pq_lst (paq_cons (pq_mulT (pq_tup (paq_cons (pq_gi (p := true) (by rfl) T.i_ANY) (paq_nil (p := true)))) (pq_var (p := true) 1 (pv 1))) (paq_nil (p := true)))))
  (psq_cons (psq_forN (passes_of rfl) (by rfl) (pv 0) (pgq_name sc_complement_closed.nd (i := 3) (by rfl) (by first | exact .inl rfl | exact .inr rfl))
    (psq_cons (psq_set sc_complement_closed.nd (i := 4) (by rfl) (by first | exact .inl rfl | exact .inr rfl) (pq_lst paq_nil (p := true)))
    (psq_cons (psq_forR1 (passes_of rfl) (by rfl) (by rfl) T.b_range (paq_cons (pq_var (p := true) 1 (pv 1)) (paq_nil (p := true))) (pgq_name sc_complement_closed.nd (i := 5) (by rfl) (by first | exact .inl rfl | exact .inr rfl))
      (psq_one (psq_if (ptq_gt (pq_ix (pq_var (p := true) 3 (pv 3)) (pq_var (p := true) 5 (pv 5))) (pq_int (p := true)))
        (psq_one (psq_append (pv 4) (pq_callL (takes_of rfl rfl rfl rfl) (ok_single T) (hr.mono (by decide)) (by rfl) T.d_single.mg T.d_single.fn.kp T.d_single.b (paq_cons (pq_var (p := true) 1 (pv 1)) (paq_cons (pq_var (p := true) 5 (pv 5)) (paq_cons (pq_sub (pq_ix (pq_var (p := true) 3 (pv 3)) (pq_var (p := true) 5 (pv 5))) (pq_int (p := true))) (paq_cons (pq_gi (p := true) (by rfl) T.i_ANY) (paq_nil (p := true)))))))))
        psq_nil)))
    (psq_one (psq_set sc_complement_closed.nd (i := 2) (by rfl) (by first | exact .inl rfl | exact .inr rfl) (pq_callL (takes_of rfl rfl rfl rfl) (ok_frame_meet T) (hr.mono (by decide)) (by rfl) T.d_frame_meet.mg T.d_frame_meet.fn.kp T.d_frame_meet.b (paq_cons (pq_var (p := true) 2 (pv 2)) (paq_cons (pq_var (p := true) 4 (pv 4)) (paq_nil (p := true))))))))))
  (psq_one (psq_ret (pq_var (p := true) 2 (pv 2))))))
theorem ok_zlaw_draws (T : Txt K mg) : FnOk P w K mg base (L2.CX P w) 1 T.a_zlaw_draws T.fd_zlaw_draws ps_zlaw_draws (spF K 2 [] (F_zlaw_draws T.cn)) :=
  def_okD (k := 0) T.d_zlaw_draws sc_zlaw_draws (by decide) (by decide) fun cdv A outer s H E hr =>
  (psq_cons (psq_set sc_zlaw_draws.nd (i := 2) (by rfl) (by first | exact .inl rfl | exact .inr rfl) (pq_list (by rfl) T.b_list (pq_var (p := true) 0 (pv 0))))
  (psq_cons (psq_if (ptq_eq hr (pq_len1 (by rfl) T.b_len (pq_var (p := true) 2 (pv 2))) (pq_int (p := true)))
    (psq_one (psq_set sc_zlaw_draws.nd (i := 2) (by rfl) (by first | exact .inl rfl | exact .inr rfl) (pq_lstI (paq_cons (pq_int (p := true)) (paq_nil (p := true))))))
    psq_nil)
  (psq_cons (psq_set sc_zlaw_draws.nd (i := 3) (by rfl) (by first | exact .inl rfl | exact .inr rfl) (pq_lst paq_nil (p := true)))
  (psq_cons (psq_set sc_zlaw_draws.nd (i := 4) (by rfl) (by first | exact .inl rfl | exact .inr rfl) (pq_int (p := true)))
  (psq_cons (psq_forR1 (passes_of rfl) (by rfl) (by rfl) T.b_range (paq_cons (pq_var (p := true) 1 (pv 1)) (paq_nil (p := true))) (pgq_name sc_zlaw_draws.nd (i := 5) (by rfl) (by first | exact .inl rfl | exact .inr rfl))
    (psq_cons (psq_set sc_zlaw_draws.nd (i := 6) (by rfl) (by first | exact .inl rfl | exact .inr rfl) (pq_mod (pq_var (p := true) 5 (pv 5)) (pq_len1 (by rfl) T.b_len (pq_var (p := true) 2 (pv 2)))))
    (psq_cons (psq_set sc_zlaw_draws.nd (i := 7) (by rfl) (by first | exact .inl rfl | exact .inr rfl) (pq_ix (pq_var (p := true) 2 (pv 2)) (pq_var (p := true) 6 (pv 6))))
    (psq_cons (psq_set sc_zlaw_draws.nd (i := 4) (by rfl) (by first | exact .inl rfl | exact .inr rfl) (pq_mod (pq_int1 (by rfl) T.b_int (pq_add (pq_add (pq_add (pq_mul (pq_var (p := true) 4 (pv 4)) (pq_int (p := true))) (pq_mul (pq_mod (pq_int1 (by rfl) T.b_int (pq_var (p := true) 7 (pv 7))) (pq_int (p := true))) (pq_int (p := true)))) (pq_mul (pq_var (p := true) 5 (pv 5)) (pq_int (p := true)))) (pq_int (p := true)))) (pq_int (p := true))))
    (psq_cons (psq_set sc_zlaw_draws.nd (i := 8) (by rfl) (by first | exact .inl rfl | exact .inr rfl) (pq_mod (pq_int1 (by rfl) T.b_int (pq_add (pq_add (pq_mul (pq_var (p := true) 4 (pv 4)) (pq_var (p := true) 4 (pv 4))) (pq_mul (pq_int (p := true)) (pq_var (p := true) 4 (pv 4)))) (pq_var (p := true) 5 (pv 5)))) (pq_int (p := true))))
    (psq_one (psq_if (ptq_ge (pq_var (p := true) 7 (pv 7)) (pq_pow (pq_int (p := true)) (pq_int (p := true))))
      (psq_cons (psq_append (pv 3) (pq_mod (pq_int1 (by rfl) T.b_int (pq_var (p := true) 7 (pv 7))) (pq_int (p := true))))
      (psq_one (psq_setAt (pv 2) (pq_var (p := true) 6 (pv 6)) (pq_div (pq_var (p := true) 7 (pv 7)) (pq_int (p := true))))))
      (psq_one (psq_append (pv 3) (pq_mod (pq_int1 (by rfl) T.b_int (pq_var (p := true) 8 (pv 8))) (pq_int (p := true))))))))))))
  (psq_cons (psq_reverse (pv 3))
  (psq_one (psq_ret (pq_var (p := true) 3 (pv 3))))))))))
theorem ok_zlaw_take (T : Txt K mg) : FnOk P w K mg base (L2.CX P w) 1 T.a_zlaw_take T.fd_zlaw_take ps_zlaw_take (spF K 2 [true] (F_zlaw_take T.cn)) :=
  def_okD (k := 0) T.d_zlaw_take sc_zlaw_take (by decide) (by decide) fun cdv A outer s H E hr =>
  (psq_cons (psq_if (ptq_eq hr (pq_len1 (by rfl) T.b_len (pq_var (p := true) 0 (pv 0))) (pq_int (p := true)))
    (psq_one (psq_ret (pq_int (p := true))))
    psq_nil)
  (psq_one (psq_ret (pq_mod (pq_int1 (by rfl) T.b_int (pq_pop (pv 0))) (pq_var (p := true) 1 (pv 1))))))
theorem ok_zlaw_is_integer (T : Txt K mg) : FnOk P w K mg base (L2.CX P w) 1 T.a_zlaw_is_integer T.fd_zlaw_is_integer ps_zlaw_is_integer (spF K 1 [] (F_zlaw_is_integer T.cn)) :=
  def_okD (k := 0) T.d_zlaw_is_integer sc_zlaw_is_integer (by decide) (by decide) fun cdv A outer s H E hr =>
  (psq_one (psq_ret (pq_and (pq_isi (by rfl) T.b_isinstance (by rfl) T.b_int (by rfl) (pq_var (p := true) 0 (pv 0))) (pq_one (pq_not (pq_isi (by rfl) T.b_isinstance (by rfl) T.b_bool (by rfl) (pq_var (p := true) 0 (pv 0))))))))
theorem ok_zlaw_numbers (T : Txt K mg) : FnOk P w K mg base (L2.CX P w) 2 T.a_zlaw_numbers T.fd_zlaw_numbers ps_zlaw_numbers (spF K 3 [] (F_zlaw_numbers T.cn)) :=
  def_okD (k := 1) T.d_zlaw_numbers sc_zlaw_numbers (by decide) (by decide) fun cdv A outer s H E hr =>
  (psq_cons (psq_if (ptq_w (pwq_or (ptq_not (ptq_tr (pq_isi (by rfl) T.b_isinstance (by rfl) T.b_tuple (by rfl) (pq_var (p := true) 0 (pv 0))))) (pwq_or1 (ptq_ne hr (pq_len1 (by rfl) T.b_len (pq_var (p := true) 0 (pv 0))) (pq_var (p := true) 1 (pv 1))))))
    (psq_one (psq_ret (pq_bl (p := true))))
    psq_nil)
  (psq_cons (psq_forN (passes_of rfl) (by rfl) (pv 0) (pgq_name sc_zlaw_numbers.nd (i := 3) (by rfl) (by first | exact .inl rfl | exact .inr rfl))
    (psq_one (psq_if (ptq_w (pwq_or (ptq_not (ptq_tr (pq_callL (takes_of rfl rfl rfl rfl) (ok_zlaw_is_integer T) (hr.mono (by decide)) (by rfl) T.d_zlaw_is_integer.mg T.d_zlaw_is_integer.fn.kp T.d_zlaw_is_integer.b (paq_cons (pq_var (p := true) 3 (pv 3)) (paq_nil (p := true)))))) (pwq_or1 (ptq_lt (pq_var (p := true) 3 (pv 3)) (pq_var (p := true) 2 (pv 2))))))
      (psq_one (psq_ret (pq_bl (p := true))))
      psq_nil)))
  (psq_one (psq_ret (pq_bl (p := true))))))
theorem ok_zlaw_all_numbers (T : Txt K mg) : FnOk P w K mg base (L2.CX P w) 3 T.a_zlaw_all_numbers T.fd_zlaw_all_numbers ps_zlaw_all_numbers (spF K 3 [] (F_zlaw_all_numbers T.cn)) :=
  def_okD (k := 2) T.d_zlaw_all_numbers sc_zlaw_all_numbers (by decide) (by decide) fun cdv A outer s H E hr =>
  (psq_cons (psq_if (ptq_not (ptq_tr (pq_isi (by rfl) T.b_isinstance (by rfl) T.b_list (by rfl) (pq_var (p := true) 0 (pv 0)))))
    (psq_one (psq_ret (pq_bl (p := true))))
    psq_nil)
  (psq_cons (psq_forN (passes_of rfl) (by rfl) (pv 0) (pgq_name sc_zlaw_all_numbers.nd (i := 3) (by rfl) (by first | exact .inl rfl | exact .inr rfl))
    (psq_one (psq_if (ptq_not (ptq_tr (pq_callL (takes_of rfl rfl rfl rfl) (ok_zlaw_numbers T) (hr.mono (by decide)) (by rfl) T.d_zlaw_numbers.mg T.d_zlaw_numbers.fn.kp T.d_zlaw_numbers.b (paq_cons (pq_var (p := true) 3 (pv 3)) (paq_cons (pq_var (p := true) 1 (pv 1)) (paq_cons (pq_var (p := true) 2 (pv 2)) (paq_nil (p := true))))))))
      (psq_one (psq_ret (pq_bl (p := true))))
      psq_nil)))
  (psq_one (psq_ret (pq_bl (p := true))))))
theorem ok_zlaw_marking (T : Txt K mg) : FnOk P w K mg base (L2.CX P w) 2 T.a_zlaw_marking T.fd_zlaw_marking ps_zlaw_marking (spF K 3 [true] (F_zlaw_marking T.cn)) :=
  def_okD (k := 1) T.d_zlaw_marking sc_zlaw_marking (by decide) (by decide) fun cdv A outer s H E hr =>
  (psq_one (psq_ret (pq_tuple (by rfl) T.b_tuple (pq_lcR1 (own := [("k", 3)]) (by rfl) sc_zlaw_marking.nd (by rfl) T.b_range (paq_cons (pq_var (p := true) 1 (pv 1)) (paq_nil (p := true))) (blkOk_by (N := N_zlaw_marking) (sc := defScope s_zlaw_marking) (own := [("k", 3)]) (by decide +kernel)) (P' := [0, 1, 2]) (m := 4) (by decide) (fun _ _ _ _ _ => (pgq_name sc_zlaw_marking.nd (i := 3) (by rfl) (by first | exact .inl rfl | exact .inr rfl))) (fun _ _ _ _ _ => (ptsq_nil (p := true))) (fun _ _ _ _ _ => (pq_callT takes0 (ok_zlaw_take T) (hr.mono (by decide)) (by rfl) T.d_zlaw_take.mg T.d_zlaw_take.fn.kp T.d_zlaw_take.b (paq_cons (pq_var (p := true) 0 (pv 0)) (paq_cons (pq_add (pq_var (p := true) 2 (pv 2)) (pq_int (p := true))) (paq_nil (p := true))))))))))
theorem ok_zlaw_markings (T : Txt K mg) : FnOk P w K mg base (L2.CX P w) 3 T.a_zlaw_markings T.fd_zlaw_markings ps_zlaw_markings (spF K 4 [true] (F_zlaw_markings T.cn)) :=
  def_okD (k := 2) T.d_zlaw_markings sc_zlaw_markings (by decide) (by decide) fun cdv A outer s H E hr =>
  (psq_one (psq_ret (pq_lcR1 (own := [("k", 4)]) (by rfl) sc_zlaw_markings.nd (by rfl) T.b_range (paq_cons (pq_var (p := true) 2 (pv 2)) (paq_nil (p := true))) (blkOk_by (N := N_zlaw_markings) (sc := defScope s_zlaw_markings) (own := [("k", 4)]) (by decide +kernel)) (P' := [0, 1, 2, 3]) (m := 5) (by decide) (fun _ _ _ _ _ => (pgq_name sc_zlaw_markings.nd (i := 4) (by rfl) (by first | exact .inl rfl | exact .inr rfl))) (fun _ _ _ _ _ => (ptsq_nil (p := true))) (fun _ _ _ _ _ => (pq_callT takes0 (ok_zlaw_marking T) (hr.mono (by decide)) (by rfl) T.d_zlaw_marking.mg T.d_zlaw_marking.fn.kp T.d_zlaw_marking.b (paq_cons (pq_var (p := true) 0 (pv 0)) (paq_cons (pq_var (p := true) 1 (pv 1)) (paq_cons (pq_var (p := true) 3 (pv 3)) (paq_nil (p := true))))))))))
theorem ok_zlaw_covers (T : Txt K mg) : FnOk P w K mg base (L2.CX P w) 1 T.a_zlaw_covers T.fd_zlaw_covers ps_zlaw_covers (spF K 2 [] (F_zlaw_covers T.cn)) :=
  def_okD (k := 0) T.d_zlaw_covers sc_zlaw_covers (by decide) (by decide) fun cdv A outer s H E hr =>
  (psq_cons (psq_forR1 (passes_of rfl) (by rfl) (by rfl) T.b_range (paq_cons (pq_len1 (by rfl) T.b_len (pq_var (p := true) 0 (pv 0))) (paq_nil (p := true))) (pgq_name sc_zlaw_covers.nd (i := 2) (by rfl) (by first | exact .inl rfl | exact .inr rfl))
    (psq_one (psq_if (ptq_lt (pq_ix (pq_var (p := true) 0 (pv 0)) (pq_var (p := true) 2 (pv 2))) (pq_ix (pq_var (p := true) 1 (pv 1)) (pq_var (p := true) 2 (pv 2))))
      (psq_one (psq_ret (pq_bl (p := true))))
      psq_nil)))
  (psq_one (psq_ret (pq_bl (p := true)))))
theorem ok_zlaw_inside (T : Txt K mg) : FnOk P w K mg base (L2.CX P w) 2 T.a_zlaw_inside T.fd_zlaw_inside ps_zlaw_inside (spF K 2 [] (F_zlaw_inside T.cn)) :=
  def_okD (k := 1) T.d_zlaw_inside sc_zlaw_inside (by decide) (by decide) fun cdv A outer s H E hr =>
  (psq_cons (psq_forN (passes_of rfl) (by rfl) (pv 0) (pgq_name sc_zlaw_inside.nd (i := 2) (by rfl) (by first | exact .inl rfl | exact .inr rfl))
    (psq_one (psq_if (ptq_tr (pq_callL (takes_of rfl rfl rfl rfl) (ok_zlaw_covers T) (hr.mono (by decide)) (by rfl) T.d_zlaw_covers.mg T.d_zlaw_covers.fn.kp T.d_zlaw_covers.b (paq_cons (pq_var (p := true) 1 (pv 1)) (paq_cons (pq_var (p := true) 2 (pv 2)) (paq_nil (p := true))))))
      (psq_one (psq_ret (pq_bl (p := true))))
      psq_nil)))
  (psq_one (psq_ret (pq_bl (p := true)))))
theorem ok_zlaw_admits (T : Txt K mg) : FnOk P w K mg base (L2.CX P w) 1 T.a_zlaw_admits T.fd_zlaw_admits ps_zlaw_admits (spF K 2 [] (F_zlaw_admits T.cn)) :=
  def_okD (k := 0) T.d_zlaw_admits sc_zlaw_admits (by decide) (by decide) fun cdv A outer s H E hr =>
  (psq_cons (psq_forR1 (passes_of rfl) (by rfl) (by rfl) T.b_range (paq_cons (pq_len1 (by rfl) T.b_len (pq_var (p := true) 0 (pv 0))) (paq_nil (p := true))) (pgq_name sc_zlaw_admits.nd (i := 2) (by rfl) (by first | exact .inl rfl | exact .inr rfl))
    (psq_one (psq_if (ptq_w (pwq_and (ptq_ge (pq_ix (pq_var (p := true) 0 (pv 0)) (pq_var (p := true) 2 (pv 2))) (pq_int (p := true))) (pwq_and1 (ptq_gt (pq_ix (pq_var (p := true) 1 (pv 1)) (pq_var (p := true) 2 (pv 2))) (pq_ix (pq_var (p := true) 0 (pv 0)) (pq_var (p := true) 2 (pv 2)))))))
      (psq_one (psq_ret (pq_bl (p := true))))
      psq_nil)))
  (psq_one (psq_ret (pq_bl (p := true)))))
theorem ok_zlaw_admitted (T : Txt K mg) : FnOk P w K mg base (L2.CX P w) 2 T.a_zlaw_admitted T.fd_zlaw_admitted ps_zlaw_admitted (spF K 2 [] (F_zlaw_admitted T.cn)) :=
  def_okD (k := 1) T.d_zlaw_admitted sc_zlaw_admitted (by decide) (by decide) fun cdv A outer s H E hr =>
  (psq_cons (psq_forN (passes_of rfl) (by rfl) (pv 0) (pgq_name sc_zlaw_admitted.nd (i := 2) (by rfl) (by first | exact .inl rfl | exact .inr rfl))
    (psq_one (psq_if (ptq_tr (pq_callL (takes_of rfl rfl rfl rfl) (ok_zlaw_admits T) (hr.mono (by decide)) (by rfl) T.d_zlaw_admits.mg T.d_zlaw_admits.fn.kp T.d_zlaw_admits.b (paq_cons (pq_var (p := true) 2 (pv 2)) (paq_cons (pq_var (p := true) 1 (pv 1)) (paq_nil (p := true))))))
      (psq_one (psq_ret (pq_bl (p := true))))
      psq_nil)))
  (psq_one (psq_ret (pq_bl (p := true)))))
theorem ok_zlaw_within (T : Txt K mg) : FnOk P w K mg base (L2.CX P w) 1 T.a_zlaw_within T.fd_zlaw_within ps_zlaw_within (spF K 2 [] (F_zlaw_within T.cn)) :=
  def_okD (k := 0) T.d_zlaw_within sc_zlaw_within (by decide) (by decide) fun cdv A outer s H E hr =>
  (psq_cons (psq_forR1 (passes_of rfl) (by rfl) (by rfl) T.b_range (paq_cons (pq_len1 (by rfl) T.b_len (pq_var (p := true) 0 (pv 0))) (paq_nil (p := true))) (pgq_name sc_zlaw_within.nd (i := 2) (by rfl) (by first | exact .inl rfl | exact .inr rfl))
    (psq_one (psq_if (ptq_w (pwq_and (ptq_ge (pq_ix (pq_var (p := true) 1 (pv 1)) (pq_var (p := true) 2 (pv 2))) (pq_int (p := true))) (pwq_and1 (ptq_w (pwq_or (ptq_lt (pq_ix (pq_var (p := true) 0 (pv 0)) (pq_var (p := true) 2 (pv 2))) (pq_int (p := true))) (pwq_or1 (ptq_gt (pq_ix (pq_var (p := true) 0 (pv 0)) (pq_var (p := true) 2 (pv 2))) (pq_ix (pq_var (p := true) 1 (pv 1)) (pq_var (p := true) 2 (pv 2))))))))))
      (psq_one (psq_ret (pq_bl (p := true))))
      psq_nil)))
  (psq_one (psq_ret (pq_bl (p := true)))))
theorem ok_zlaw_greatest (T : Txt K mg) : FnOk P w K mg base (L2.CX P w) 2 T.a_zlaw_greatest T.fd_zlaw_greatest ps_zlaw_greatest (spF K 1 [] (F_zlaw_greatest T.cn)) :=
  def_okD (k := 1) T.d_zlaw_greatest sc_zlaw_greatest (by decide) (by decide) fun cdv A outer s H E hr =>
  (psq_cons (psq_set sc_zlaw_greatest.nd (i := 1) (by rfl) (by first | exact .inl rfl | exact .inr rfl) (pq_lst paq_nil (p := true)))
  (psq_cons (psq_forE (passes_of rfl) (by rfl) (pq_sortSet (by rfl) hr (by rfl) T.b_sorted (by rfl) T.b_set (pq_var (p := true) 0 (pv 0))) (pgq_name sc_zlaw_greatest.nd (i := 2) (by rfl) (by first | exact .inl rfl | exact .inr rfl))
    (psq_cons (psq_setLcN (own := [("other", 4)]) (by rfl) sc_zlaw_greatest.nd (i := 3) (by rfl) (by rfl) (sw_true (by rfl) (by rfl) (by rfl) (by decide +kernel)) (pv 0) (blkOk_by (N := N_zlaw_greatest) (sc := defScope s_zlaw_greatest) (own := [("other", 4)]) (by decide +kernel)) (P' := [0, 1, 2, 3]) (m := 5) (by decide) (fun _ _ _ _ _ => (pgq_name sc_zlaw_greatest.nd (i := 4) (by rfl) (by first | exact .inl rfl | exact .inr rfl))) (fun _ _ _ _ _ => (ptsq_one (ptq_w (pwq_and (ptq_ne hr (pq_var (p := true) 4 (pv 4)) (pq_var (p := true) 2 (pv 2))) (pwq_and1 (ptq_tr (pq_callL takes0 (ok_zlaw_within T) (hr.mono (by decide)) (by rfl) T.d_zlaw_within.mg T.d_zlaw_within.fn.kp T.d_zlaw_within.b (paq_cons (pq_var (p := true) 2 (pv 2)) (paq_cons (pq_var (p := true) 4 (pv 4)) (paq_nil (p := true))))))))))) (fun _ _ _ _ _ => (pq_var (p := true) 4 (pv 4))))
    (psq_one (psq_if (ptq_eq hr (pq_len1 (by rfl) T.b_len (pq_var (p := true) 3 (pv 3))) (pq_int (p := true)))
      (psq_one (psq_append (pv 1) (pq_var (p := true) 2 (pv 2))))
      psq_nil))))
  (psq_one (psq_ret (pq_var (p := true) 1 (pv 1))))))
theorem ok_zlaw_box (T : Txt K mg) : FnOk P w K mg base (L2.CX P w) 1 T.a_zlaw_box T.fd_zlaw_box ps_zlaw_box (spF K 2 [] (F_zlaw_box T.cn)) :=
  def_okD (k := 0) T.d_zlaw_box sc_zlaw_box (by decide) (by decide) fun cdv A outer s H E hr =>
  (psq_cons (psq_set sc_zlaw_box.nd (i := 2) (by rfl) (by first | exact .inl rfl | exact .inr rfl) (pq_lst (paq_cons (pq_tup paq_nil (p := true)) (paq_nil (p := true)))))
  (psq_cons (psq_forR1 (passes_of rfl) (by rfl) (by rfl) T.b_range (paq_cons (pq_var (p := true) 0 (pv 0)) (paq_nil (p := true))) (pgq_name sc_zlaw_box.nd (i := 3) (by rfl) (by first | exact .inl rfl | exact .inr rfl))
    (psq_cons (psq_set sc_zlaw_box.nd (i := 4) (by rfl) (by first | exact .inl rfl | exact .inr rfl) (pq_lst paq_nil (p := true)))
    (psq_cons (psq_forN (passes_of rfl) (by rfl) (pv 2) (pgq_name sc_zlaw_box.nd (i := 5) (by rfl) (by first | exact .inl rfl | exact .inr rfl))
      (psq_one (psq_forR1 (passes_of rfl) (by rfl) (by rfl) T.b_range (paq_cons (pq_add (pq_var (p := true) 1 (pv 1)) (pq_int (p := true))) (paq_nil (p := true))) (pgq_name sc_zlaw_box.nd (i := 6) (by rfl) (by first | exact .inl rfl | exact .inr rfl))
        (psq_one (psq_append (pv 4) (pq_add (pq_var (p := true) 5 (pv 5)) (pq_tup (paq_cons (pq_var (p := true) 6 (pv 6)) (paq_nil (p := true))))))))))
    (psq_one (psq_setM sc_zlaw_box.nd (i := 2) (by rfl) (by first | exact .inl rfl | exact .inr rfl) (pq_var (p := true) 4 (pv 4)))))))
  (psq_one (psq_ret (pq_var (p := true) 2 (pv 2))))))
theorem ok_zlaw_first_half (T : Txt K mg) : FnOk P w K mg base (L2.CX P w) 5 T.a_zlaw_first_half T.fd_zlaw_first_half ps_zlaw_first_half (spF K 1 [] (F_zlaw_first_half T.cn)) :=
  def_okD (k := 4) T.d_zlaw_first_half sc_zlaw_first_half (by decide) (by decide) fun cdv A outer s H E hr =>
  (psq_cons (psq_set sc_zlaw_first_half.nd (i := 1) (by rfl) (by first | exact .inl rfl | exact .inr rfl) (pq_callL (takes_of rfl rfl rfl rfl) (ok_zlaw_draws T) (hr.mono (by decide)) (by rfl) T.d_zlaw_draws.mg T.d_zlaw_draws.fn.kp T.d_zlaw_draws.b (paq_cons (pq_var (p := true) 0 (pv 0)) (paq_cons (pq_int (p := true)) (paq_nil (p := true))))))
  (psq_cons (psq_set sc_zlaw_first_half.nd (i := 2) (by rfl) (by first | exact .inl rfl | exact .inr rfl) (pq_add (pq_int (p := true)) (pq_callT (takes_of rfl rfl rfl rfl) (ok_zlaw_take T) (hr.mono (by decide)) (by rfl) T.d_zlaw_take.mg T.d_zlaw_take.fn.kp T.d_zlaw_take.b (paq_cons (pq_var (p := true) 1 (pv 1)) (paq_cons (pq_int (p := true)) (paq_nil (p := true)))))))
  (psq_cons (psq_set sc_zlaw_first_half.nd (i := 3) (by rfl) (by first | exact .inl rfl | exact .inr rfl) (pq_callT (takes_of rfl rfl rfl rfl) (ok_zlaw_markings T) (hr.mono (by decide)) (by rfl) T.d_zlaw_markings.mg T.d_zlaw_markings.fn.kp T.d_zlaw_markings.b (paq_cons (pq_var (p := true) 1 (pv 1)) (paq_cons (pq_var (p := true) 2 (pv 2)) (paq_cons (pq_callT (takes_of rfl rfl rfl rfl) (ok_zlaw_take T) (hr.mono (by decide)) (by rfl) T.d_zlaw_take.mg T.d_zlaw_take.fn.kp T.d_zlaw_take.b (paq_cons (pq_var (p := true) 1 (pv 1)) (paq_cons (pq_int (p := true)) (paq_nil (p := true))))) (paq_cons (pq_int (p := true)) (paq_nil (p := true))))))))
  (psq_cons (psq_if (ptq_eq hr (pq_callT (takes_of rfl rfl rfl rfl) (ok_zlaw_take T) (hr.mono (by decide)) (by rfl) T.d_zlaw_take.mg T.d_zlaw_take.fn.kp T.d_zlaw_take.b (paq_cons (pq_var (p := true) 1 (pv 1)) (paq_cons (pq_int (p := true)) (paq_nil (p := true))))) (pq_int (p := true)))
    (psq_one (psq_append (pv 3) (pq_mulT (pq_tupI (paq_cons (pq_int (p := true)) (paq_nil (p := true)))) (pq_var (p := true) 2 (pv 2)))))
    psq_nil)
  (psq_cons (psq_set sc_zlaw_first_half.nd (i := 4) (by rfl) (by first | exact .inl rfl | exact .inr rfl) (pq_callL (takes_of rfl rfl rfl rfl) (ok_complement_closed T) (hr.mono (by decide)) (by rfl) T.d_complement_closed.mg T.d_complement_closed.fn.kp T.d_complement_closed.b (paq_cons (pq_list (by rfl) T.b_list (pq_var (p := true) 3 (pv 3))) (paq_cons (pq_var (p := true) 2 (pv 2)) (paq_nil (p := true))))))
  (psq_cons (psq_if (ptq_w (pwq_or (ptq_not (ptq_tr (pq_callL (takes_of rfl rfl rfl rfl) (ok_zlaw_all_numbers T) (hr.mono (by decide)) (by rfl) T.d_zlaw_all_numbers.mg T.d_zlaw_all_numbers.fn.kp T.d_zlaw_all_numbers.b (paq_cons (pq_var (p := true) 4 (pv 4)) (paq_cons (pq_var (p := true) 2 (pv 2)) (paq_cons (pq_neg (pq_int (p := true))) (paq_nil (p := true)))))))) (pwq_or1 (ptq_ne hr (pq_var (p := true) 4 (pv 4)) (pq_callL (takes_of rfl rfl rfl rfl) (ok_zlaw_greatest T) (hr.mono (by decide)) (by rfl) T.d_zlaw_greatest.mg T.d_zlaw_greatest.fn.kp T.d_zlaw_greatest.b (paq_cons (pq_var (p := true) 4 (pv 4)) (paq_nil (p := true))))))))
    (psq_one (psq_ret (pq_bl (p := true))))
    psq_nil)
  (psq_cons (psq_forE (passes_of rfl) (by rfl) (pq_callL (takes_of rfl rfl rfl rfl) (ok_zlaw_box T) (hr.mono (by decide)) (by rfl) T.d_zlaw_box.mg T.d_zlaw_box.fn.kp T.d_zlaw_box.b (paq_cons (pq_var (p := true) 2 (pv 2)) (paq_cons (pq_int (p := true)) (paq_nil (p := true))))) (pgq_name sc_zlaw_first_half.nd (i := 5) (by rfl) (by first | exact .inl rfl | exact .inr rfl))
    (psq_one (psq_if (ptq_eq hr (pq_callL (takes_of rfl rfl rfl rfl) (ok_zlaw_admitted T) (hr.mono (by decide)) (by rfl) T.d_zlaw_admitted.mg T.d_zlaw_admitted.fn.kp T.d_zlaw_admitted.b (paq_cons (pq_var (p := true) 4 (pv 4)) (paq_cons (pq_var (p := true) 5 (pv 5)) (paq_nil (p := true))))) (pq_callL (takes_of rfl rfl rfl rfl) (ok_zlaw_inside T) (hr.mono (by decide)) (by rfl) T.d_zlaw_inside.mg T.d_zlaw_inside.fn.kp T.d_zlaw_inside.b (paq_cons (pq_var (p := true) 3 (pv 3)) (paq_cons (pq_var (p := true) 5 (pv 5)) (paq_nil (p := true))))))
      (psq_one (psq_ret (pq_bl (p := true))))
      psq_nil)))
  (psq_cons (psq_forN (passes_of rfl) (by rfl) (pv 4) (pgq_name sc_zlaw_first_half.nd (i := 6) (by rfl) (by first | exact .inl rfl | exact .inr rfl))
    (psq_cons (psq_forN (passes_of rfl) (by rfl) (pv 3) (pgq_name sc_zlaw_first_half.nd (i := 7) (by rfl) (by first | exact .inl rfl | exact .inr rfl))
      (psq_one (psq_if (ptq_tr (pq_callL (takes_of rfl rfl rfl rfl) (ok_zlaw_admits T) (hr.mono (by decide)) (by rfl) T.d_zlaw_admits.mg T.d_zlaw_admits.fn.kp T.d_zlaw_admits.b (paq_cons (pq_var (p := true) 6 (pv 6)) (paq_cons (pq_var (p := true) 7 (pv 7)) (paq_nil (p := true))))))
        (psq_one (psq_ret (pq_bl (p := true))))
        psq_nil)))
    (psq_one (psq_forR1 (passes_of rfl) (by rfl) (by rfl) T.b_range (paq_cons (pq_var (p := true) 2 (pv 2)) (paq_nil (p := true))) (pgq_name sc_zlaw_first_half.nd (i := 8) (by rfl) (by first | exact .inl rfl | exact .inr rfl))
      (psq_one (psq_if (ptq_ge (pq_ix (pq_var (p := true) 6 (pv 6)) (pq_var (p := true) 8 (pv 8))) (pq_int (p := true)))
        (psq_cons (psq_set sc_zlaw_first_half.nd (i := 9) (by rfl) (by first | exact .inl rfl | exact .inr rfl) (pq_add (pq_add (pq_sl (pq_var (p := true) 6 (pv 6)) mo_none (mo_some (W := fun _ _ _ _ => False) (pq_var (p := true) 8 (pv 8)))) (pq_tup (paq_cons (pq_add (pq_ix (pq_var (p := true) 6 (pv 6)) (pq_var (p := true) 8 (pv 8))) (pq_int (p := true))) (paq_nil (p := true))))) (pq_sl (pq_var (p := true) 6 (pv 6)) (mo_some (W := fun _ _ _ _ => False) (pq_add (pq_var (p := true) 8 (pv 8)) (pq_int (p := true)))) mo_none)))
        (psq_one (psq_if (ptq_eq hr (pq_len1 (by rfl) T.b_len (pq_lcN (own := [("member", 7)]) (by rfl) sc_zlaw_first_half.nd (pv 3) (blkOk_by (N := N_zlaw_first_half) (sc := defScope s_zlaw_first_half) (own := [("member", 7)]) (by decide +kernel)) (P' := [0, 1, 2, 3, 4, 5, 6, 8, 9]) (m := 10) (by decide) (fun _ _ _ _ _ => (pgq_name sc_zlaw_first_half.nd (i := 7) (by rfl) (by first | exact .inl rfl | exact .inr rfl))) (fun _ _ _ _ _ => (ptsq_one (ptq_tr (pq_callL takes0 (ok_zlaw_admits T) (hr.mono (by decide)) (by rfl) T.d_zlaw_admits.mg T.d_zlaw_admits.fn.kp T.d_zlaw_admits.b (paq_cons (pq_var (p := true) 9 (pv 9)) (paq_cons (pq_var (p := true) 7 (pv 7)) (paq_nil (p := true)))))))) (fun _ _ _ _ _ => (pq_var (p := true) 7 (pv 7))))) (pq_int (p := true)))
          (psq_one (psq_ret (pq_bl (p := true))))
          psq_nil)))
        psq_nil))))))
  (psq_one (psq_ret (pq_bl (p := true))))))))))))
theorem ok_covers (T : Txt K mg) : FnOk P w K mg base (L2.CX P w) 1 T.a_covers T.fd_covers ps_covers (spF K 2 [] (F_covers T.cn)) :=
  def_okD (k := 0) T.d_covers sc_covers (by decide) (by decide) fun cdv A outer s H E hr =>
  (psq_cons (psq_forR1 (passes_of rfl) (by rfl) (by rfl) T.b_range (paq_cons (pq_len1 (by rfl) T.b_len (pq_var (p := true) 0 (pv 0))) (paq_nil (p := true))) (pgq_name sc_covers.nd (i := 2) (by rfl) (by first | exact .inl rfl | exact .inr rfl))
    (psq_one (psq_if (ptq_lt (pq_ix (pq_var (p := true) 0 (pv 0)) (pq_var (p := true) 2 (pv 2))) (pq_ix (pq_var (p := true) 1 (pv 1)) (pq_var (p := true) 2 (pv 2))))
      (psq_one (psq_ret (pq_bl (p := true))))
      psq_nil)))
  (psq_one (psq_ret (pq_bl (p := true)))))
theorem ok_basis_of (T : Txt K mg) : FnOk P w K mg base (L2.CX P w) 2 T.a_basis_of T.fd_basis_of ps_basis_of (spF K 1 [] (F_basis_of T.cn)) :=
  def_okD (k := 1) T.d_basis_of sc_basis_of (by decide) (by decide) fun cdv A outer s H E hr =>
  (psq_cons (psq_set sc_basis_of.nd (i := 1) (by rfl) (by first | exact .inl rfl | exact .inr rfl) (pq_lst paq_nil (p := true)))
  (psq_cons (psq_forE (passes_of rfl) (by rfl) (pq_sortSet (by rfl) hr (by rfl) T.b_sorted (by rfl) T.b_set (pq_var (p := true) 0 (pv 0))) (pgq_name sc_basis_of.nd (i := 2) (by rfl) (by first | exact .inl rfl | exact .inr rfl))
    (psq_cons (psq_set sc_basis_of.nd (i := 3) (by rfl) (by first | exact .inl rfl | exact .inr rfl) (pq_bl (p := true)))
    (psq_cons (psq_forN (passes_of rfl) (by rfl) (pv 1) (pgq_name sc_basis_of.nd (i := 4) (by rfl) (by first | exact .inl rfl | exact .inr rfl))
      (psq_one (psq_set sc_basis_of.nd (i := 3) (by rfl) (by first | exact .inl rfl | exact .inr rfl) (pq_and (pq_var (p := true) 3 (pv 3)) (pq_one (pq_not (pq_callL (takes_of rfl rfl rfl rfl) (ok_covers T) (hr.mono (by decide)) (by rfl) T.d_covers.mg T.d_covers.fn.kp T.d_covers.b (paq_cons (pq_var (p := true) 2 (pv 2)) (paq_cons (pq_var (p := true) 4 (pv 4)) (paq_nil (p := true)))))))))))
    (psq_one (psq_if (ptq_tr (pq_var (p := true) 3 (pv 3)))
      (psq_one (psq_append (pv 1) (pq_var (p := true) 2 (pv 2))))
      psq_nil)))))
  (psq_one (psq_ret (pq_var (p := true) 1 (pv 1))))))
theorem ok_join (T : Txt K mg) : FnOk P w K mg base (L2.CX P w) 1 T.a_join T.fd_join ps_join (spF K 2 [] (F_join T.cn)) :=
  def_okD (k := 0) T.d_join sc_join (by decide) (by decide) fun cdv A outer s H E hr =>
  (psq_one (psq_ret (pq_tuple (by rfl) T.b_tuple (pq_lcR1 (own := [("k", 2)]) (by rfl) sc_join.nd (by rfl) T.b_range (paq_cons (pq_len1 (by rfl) T.b_len (pq_var (p := true) 0 (pv 0))) (paq_nil (p := true))) (blkOk_by (N := N_join) (sc := defScope s_join) (own := [("k", 2)]) (by decide +kernel)) (P' := [0, 1]) (m := 3) (by decide) (fun _ _ _ _ _ => (pgq_name sc_join.nd (i := 2) (by rfl) (by first | exact .inl rfl | exact .inr rfl))) (fun _ _ _ _ _ => (ptsq_nil (p := true))) (fun _ _ _ _ _ => (pq_max2 (by rfl) (by rfl) T.b_max (pq_ix (pq_var (p := true) 0 (pv 0)) (pq_var (p := true) 2 (pv 2))) (pq_ix (pq_var (p := true) 1 (pv 1)) (pq_var (p := true) 2 (pv 2)))))))))
theorem ok_meet (T : Txt K mg) : FnOk P w K mg base (L2.CX P w) 3 T.a_meet T.fd_meet ps_meet (spF K 2 [] (F_meet T.cn)) :=
  def_okD (k := 2) T.d_meet sc_meet (by decide) (by decide) fun cdv A outer s H E hr =>
  (psq_cons (psq_set sc_meet.nd (i := 2) (by rfl) (by first | exact .inl rfl | exact .inr rfl) (pq_lst paq_nil (p := true)))
  (psq_cons (psq_forN (passes_of rfl) (by rfl) (pv 0) (pgq_name sc_meet.nd (i := 3) (by rfl) (by first | exact .inl rfl | exact .inr rfl))
    (psq_one (psq_forN (passes_of rfl) (by rfl) (pv 1) (pgq_name sc_meet.nd (i := 4) (by rfl) (by first | exact .inl rfl | exact .inr rfl))
      (psq_one (psq_append (pv 2) (pq_callL (takes_of rfl rfl rfl rfl) (ok_join T) (hr.mono (by decide)) (by rfl) T.d_join.mg T.d_join.fn.kp T.d_join.b (paq_cons (pq_var (p := true) 3 (pv 3)) (paq_cons (pq_var (p := true) 4 (pv 4)) (paq_nil (p := true))))))))))
  (psq_one (psq_ret (pq_callL (takes_of rfl rfl rfl rfl) (ok_basis_of T) (hr.mono (by decide)) (by rfl) T.d_basis_of.mg T.d_basis_of.fn.kp T.d_basis_of.b (paq_cons (pq_var (p := true) 2 (pv 2)) (paq_nil (p := true))))))))
theorem ok_complement_frame (T : Txt K mg) : FnOk P w K mg base (L2.CX P w) 4 T.a_complement_frame T.fd_complement_frame ps_complement_frame (spF K 2 [] (F_complement_frame T.cn)) :=
  def_okD (k := 3) T.d_complement_frame sc_complement_frame (by decide) (by decide) fun cdv A outer s H E hr =>
  (psq_cons (psq_set sc_complement_frame.nd (i := 2) (by rfl) (by first | exact .inl rfl | exact .inr rfl) (pq_lst (paq_cons (pq_mulT (pq_tupI (paq_cons (pq_int (p := true)) (paq_nil (p := true)))) (pq_var (p := true) 1 (pv 1))) (paq_nil (p := true)))))
  (psq_cons (psq_forN (passes_of rfl) (by rfl) (pv 0) (pgq_name sc_complement_frame.nd (i := 3) (by rfl) (by first | exact .inl rfl | exact .inr rfl))
    (psq_cons (psq_set sc_complement_frame.nd (i := 4) (by rfl) (by first | exact .inl rfl | exact .inr rfl) (pq_lst paq_nil (p := true)))
    (psq_cons (psq_forR1 (passes_of rfl) (by rfl) (by rfl) T.b_range (paq_cons (pq_var (p := true) 1 (pv 1)) (paq_nil (p := true))) (pgq_name sc_complement_frame.nd (i := 5) (by rfl) (by first | exact .inl rfl | exact .inr rfl))
      (psq_one (psq_if (ptq_ne hr (pq_ix (pq_var (p := true) 3 (pv 3)) (pq_var (p := true) 5 (pv 5))) (pq_gi (p := true) (by rfl) T.i_ANY))
        (psq_one (psq_append (pv 4) (pq_callL (takes_of rfl rfl rfl rfl) (ok_single T) (hr.mono (by decide)) (by rfl) T.d_single.mg T.d_single.fn.kp T.d_single.b (paq_cons (pq_var (p := true) 1 (pv 1)) (paq_cons (pq_var (p := true) 5 (pv 5)) (paq_cons (pq_add (pq_ix (pq_var (p := true) 3 (pv 3)) (pq_var (p := true) 5 (pv 5))) (pq_int (p := true))) (paq_cons (pq_int (p := true)) (paq_nil (p := true)))))))))
        psq_nil)))
    (psq_one (psq_set sc_complement_frame.nd (i := 2) (by rfl) (by first | exact .inl rfl | exact .inr rfl) (pq_callL (takes_of rfl rfl rfl rfl) (ok_meet T) (hr.mono (by decide)) (by rfl) T.d_meet.mg T.d_meet.fn.kp T.d_meet.b (paq_cons (pq_var (p := true) 2 (pv 2)) (paq_cons (pq_var (p := true) 4 (pv 4)) (paq_nil (p := true))))))))))
  (psq_one (psq_ret (pq_var (p := true) 2 (pv 2))))))
theorem ok_zlaw_least (T : Txt K mg) : FnOk P w K mg base (L2.CX P w) 2 T.a_zlaw_least T.fd_zlaw_least ps_zlaw_least (spF K 1 [] (F_zlaw_least T.cn)) :=
  def_okD (k := 1) T.d_zlaw_least sc_zlaw_least (by decide) (by decide) fun cdv A outer s H E hr =>
  (psq_cons (psq_set sc_zlaw_least.nd (i := 1) (by rfl) (by first | exact .inl rfl | exact .inr rfl) (pq_lst paq_nil (p := true)))
  (psq_cons (psq_forE (passes_of rfl) (by rfl) (pq_sortSet (by rfl) hr (by rfl) T.b_sorted (by rfl) T.b_set (pq_var (p := true) 0 (pv 0))) (pgq_name sc_zlaw_least.nd (i := 2) (by rfl) (by first | exact .inl rfl | exact .inr rfl))
    (psq_cons (psq_setLcN (own := [("other", 4)]) (by rfl) sc_zlaw_least.nd (i := 3) (by rfl) (by rfl) (sw_true (by rfl) (by rfl) (by rfl) (by decide +kernel)) (pv 0) (blkOk_by (N := N_zlaw_least) (sc := defScope s_zlaw_least) (own := [("other", 4)]) (by decide +kernel)) (P' := [0, 1, 2, 3]) (m := 5) (by decide) (fun _ _ _ _ _ => (pgq_name sc_zlaw_least.nd (i := 4) (by rfl) (by first | exact .inl rfl | exact .inr rfl))) (fun _ _ _ _ _ => (ptsq_one (ptq_w (pwq_and (ptq_ne hr (pq_var (p := true) 4 (pv 4)) (pq_var (p := true) 2 (pv 2))) (pwq_and1 (ptq_tr (pq_callL takes0 (ok_zlaw_covers T) (hr.mono (by decide)) (by rfl) T.d_zlaw_covers.mg T.d_zlaw_covers.fn.kp T.d_zlaw_covers.b (paq_cons (pq_var (p := true) 2 (pv 2)) (paq_cons (pq_var (p := true) 4 (pv 4)) (paq_nil (p := true))))))))))) (fun _ _ _ _ _ => (pq_var (p := true) 4 (pv 4))))
    (psq_one (psq_if (ptq_eq hr (pq_len1 (by rfl) T.b_len (pq_var (p := true) 3 (pv 3))) (pq_int (p := true)))
      (psq_one (psq_append (pv 1) (pq_var (p := true) 2 (pv 2))))
      psq_nil))))
  (psq_one (psq_ret (pq_var (p := true) 1 (pv 1))))))
theorem ok_zlaw_limit (T : Txt K mg) : FnOk P w K mg base (L2.CX P w) 2 T.a_zlaw_limit T.fd_zlaw_limit ps_zlaw_limit (spF K 3 [true] (F_zlaw_limit T.cn)) :=
  def_okD (k := 1) T.d_zlaw_limit sc_zlaw_limit (by decide) (by decide) fun cdv A outer s H E hr =>
  (psq_one (psq_ret (pq_tuple (by rfl) T.b_tuple (pq_lcR1 (own := [("k", 3)]) (by rfl) sc_zlaw_limit.nd (by rfl) T.b_range (paq_cons (pq_var (p := true) 1 (pv 1)) (paq_nil (p := true))) (blkOk_by (N := N_zlaw_limit) (sc := defScope s_zlaw_limit) (own := [("k", 3)]) (by decide +kernel)) (P' := [0, 1, 2]) (m := 4) (by decide) (fun _ _ _ _ _ => (pgq_name sc_zlaw_limit.nd (i := 3) (by rfl) (by first | exact .inl rfl | exact .inr rfl))) (fun _ _ _ _ _ => (ptsq_nil (p := true))) (fun _ _ _ _ _ => (pq_sub (pq_callT takes0 (ok_zlaw_take T) (hr.mono (by decide)) (by rfl) T.d_zlaw_take.mg T.d_zlaw_take.fn.kp T.d_zlaw_take.b (paq_cons (pq_var (p := true) 0 (pv 0)) (paq_cons (pq_add (pq_var (p := true) 2 (pv 2)) (pq_int (p := true))) (paq_nil (p := true))))) (pq_int (p := true))))))))
theorem ok_zlaw_limits (T : Txt K mg) : FnOk P w K mg base (L2.CX P w) 3 T.a_zlaw_limits T.fd_zlaw_limits ps_zlaw_limits (spF K 4 [true] (F_zlaw_limits T.cn)) :=
  def_okD (k := 2) T.d_zlaw_limits sc_zlaw_limits (by decide) (by decide) fun cdv A outer s H E hr =>
  (psq_one (psq_ret (pq_lcR1 (own := [("k", 4)]) (by rfl) sc_zlaw_limits.nd (by rfl) T.b_range (paq_cons (pq_var (p := true) 2 (pv 2)) (paq_nil (p := true))) (blkOk_by (N := N_zlaw_limits) (sc := defScope s_zlaw_limits) (own := [("k", 4)]) (by decide +kernel)) (P' := [0, 1, 2, 3]) (m := 5) (by decide) (fun _ _ _ _ _ => (pgq_name sc_zlaw_limits.nd (i := 4) (by rfl) (by first | exact .inl rfl | exact .inr rfl))) (fun _ _ _ _ _ => (ptsq_nil (p := true))) (fun _ _ _ _ _ => (pq_callT takes0 (ok_zlaw_limit T) (hr.mono (by decide)) (by rfl) T.d_zlaw_limit.mg T.d_zlaw_limit.fn.kp T.d_zlaw_limit.b (paq_cons (pq_var (p := true) 0 (pv 0)) (paq_cons (pq_var (p := true) 1 (pv 1)) (paq_cons (pq_var (p := true) 3 (pv 3)) (paq_nil (p := true))))))))))
theorem ok_zlaw_second_half (T : Txt K mg) : FnOk P w K mg base (L2.CX P w) 5 T.a_zlaw_second_half T.fd_zlaw_second_half ps_zlaw_second_half (spF K 1 [] (F_zlaw_second_half T.cn)) :=
  def_okD (k := 4) T.d_zlaw_second_half sc_zlaw_second_half (by decide) (by decide) fun cdv A outer s H E hr =>
  (psq_cons (psq_set sc_zlaw_second_half.nd (i := 1) (by rfl) (by first | exact .inl rfl | exact .inr rfl) (pq_callL (takes_of rfl rfl rfl rfl) (ok_zlaw_draws T) (hr.mono (by decide)) (by rfl) T.d_zlaw_draws.mg T.d_zlaw_draws.fn.kp T.d_zlaw_draws.b (paq_cons (pq_var (p := true) 0 (pv 0)) (paq_cons (pq_int (p := true)) (paq_nil (p := true))))))
  (psq_cons (psq_set sc_zlaw_second_half.nd (i := 2) (by rfl) (by first | exact .inl rfl | exact .inr rfl) (pq_add (pq_int (p := true)) (pq_callT (takes_of rfl rfl rfl rfl) (ok_zlaw_take T) (hr.mono (by decide)) (by rfl) T.d_zlaw_take.mg T.d_zlaw_take.fn.kp T.d_zlaw_take.b (paq_cons (pq_var (p := true) 1 (pv 1)) (paq_cons (pq_int (p := true)) (paq_nil (p := true)))))))
  (psq_cons (psq_set sc_zlaw_second_half.nd (i := 3) (by rfl) (by first | exact .inl rfl | exact .inr rfl) (pq_callT (takes_of rfl rfl rfl rfl) (ok_zlaw_limits T) (hr.mono (by decide)) (by rfl) T.d_zlaw_limits.mg T.d_zlaw_limits.fn.kp T.d_zlaw_limits.b (paq_cons (pq_var (p := true) 1 (pv 1)) (paq_cons (pq_var (p := true) 2 (pv 2)) (paq_cons (pq_callT (takes_of rfl rfl rfl rfl) (ok_zlaw_take T) (hr.mono (by decide)) (by rfl) T.d_zlaw_take.mg T.d_zlaw_take.fn.kp T.d_zlaw_take.b (paq_cons (pq_var (p := true) 1 (pv 1)) (paq_cons (pq_int (p := true)) (paq_nil (p := true))))) (paq_cons (pq_int (p := true)) (paq_nil (p := true))))))))
  (psq_cons (psq_set sc_zlaw_second_half.nd (i := 4) (by rfl) (by first | exact .inl rfl | exact .inr rfl) (pq_callL (takes_of rfl rfl rfl rfl) (ok_complement_frame T) (hr.mono (by decide)) (by rfl) T.d_complement_frame.mg T.d_complement_frame.fn.kp T.d_complement_frame.b (paq_cons (pq_list (by rfl) T.b_list (pq_var (p := true) 3 (pv 3))) (paq_cons (pq_var (p := true) 2 (pv 2)) (paq_nil (p := true))))))
  (psq_cons (psq_if (ptq_w (pwq_or (ptq_not (ptq_tr (pq_callL (takes_of rfl rfl rfl rfl) (ok_zlaw_all_numbers T) (hr.mono (by decide)) (by rfl) T.d_zlaw_all_numbers.mg T.d_zlaw_all_numbers.fn.kp T.d_zlaw_all_numbers.b (paq_cons (pq_var (p := true) 4 (pv 4)) (paq_cons (pq_var (p := true) 2 (pv 2)) (paq_cons (pq_int (p := true)) (paq_nil (p := true)))))))) (pwq_or1 (ptq_ne hr (pq_var (p := true) 4 (pv 4)) (pq_callL (takes_of rfl rfl rfl rfl) (ok_zlaw_least T) (hr.mono (by decide)) (by rfl) T.d_zlaw_least.mg T.d_zlaw_least.fn.kp T.d_zlaw_least.b (paq_cons (pq_var (p := true) 4 (pv 4)) (paq_nil (p := true))))))))
    (psq_one (psq_ret (pq_bl (p := true))))
    psq_nil)
  (psq_cons (psq_forE (passes_of rfl) (by rfl) (pq_callL (takes_of rfl rfl rfl rfl) (ok_zlaw_box T) (hr.mono (by decide)) (by rfl) T.d_zlaw_box.mg T.d_zlaw_box.fn.kp T.d_zlaw_box.b (paq_cons (pq_var (p := true) 2 (pv 2)) (paq_cons (pq_int (p := true)) (paq_nil (p := true))))) (pgq_name sc_zlaw_second_half.nd (i := 5) (by rfl) (by first | exact .inl rfl | exact .inr rfl))
    (psq_one (psq_if (ptq_eq hr (pq_callL (takes_of rfl rfl rfl rfl) (ok_zlaw_inside T) (hr.mono (by decide)) (by rfl) T.d_zlaw_inside.mg T.d_zlaw_inside.fn.kp T.d_zlaw_inside.b (paq_cons (pq_var (p := true) 4 (pv 4)) (paq_cons (pq_var (p := true) 5 (pv 5)) (paq_nil (p := true))))) (pq_callL (takes_of rfl rfl rfl rfl) (ok_zlaw_admitted T) (hr.mono (by decide)) (by rfl) T.d_zlaw_admitted.mg T.d_zlaw_admitted.fn.kp T.d_zlaw_admitted.b (paq_cons (pq_var (p := true) 3 (pv 3)) (paq_cons (pq_var (p := true) 5 (pv 5)) (paq_nil (p := true))))))
      (psq_one (psq_ret (pq_bl (p := true))))
      psq_nil)))
  (psq_cons (psq_forN (passes_of rfl) (by rfl) (pv 4) (pgq_name sc_zlaw_second_half.nd (i := 6) (by rfl) (by first | exact .inl rfl | exact .inr rfl))
    (psq_cons (psq_if (ptq_tr (pq_callL (takes_of rfl rfl rfl rfl) (ok_zlaw_admitted T) (hr.mono (by decide)) (by rfl) T.d_zlaw_admitted.mg T.d_zlaw_admitted.fn.kp T.d_zlaw_admitted.b (paq_cons (pq_var (p := true) 3 (pv 3)) (paq_cons (pq_var (p := true) 6 (pv 6)) (paq_nil (p := true))))))
      (psq_one (psq_ret (pq_bl (p := true))))
      psq_nil)
    (psq_one (psq_forR1 (passes_of rfl) (by rfl) (by rfl) T.b_range (paq_cons (pq_var (p := true) 2 (pv 2)) (paq_nil (p := true))) (pgq_name sc_zlaw_second_half.nd (i := 7) (by rfl) (by first | exact .inl rfl | exact .inr rfl))
      (psq_cons (psq_set sc_zlaw_second_half.nd (i := 8) (by rfl) (by first | exact .inl rfl | exact .inr rfl) (pq_add (pq_add (pq_sl (pq_var (p := true) 6 (pv 6)) mo_none (mo_some (W := fun _ _ _ _ => False) (pq_var (p := true) 7 (pv 7)))) (pq_tup (paq_cons (pq_sub (pq_ix (pq_var (p := true) 6 (pv 6)) (pq_var (p := true) 7 (pv 7))) (pq_int (p := true))) (paq_nil (p := true))))) (pq_sl (pq_var (p := true) 6 (pv 6)) (mo_some (W := fun _ _ _ _ => False) (pq_add (pq_var (p := true) 7 (pv 7)) (pq_int (p := true)))) mo_none)))
      (psq_one (psq_if (ptq_w (pwq_and (ptq_gt (pq_ix (pq_var (p := true) 6 (pv 6)) (pq_var (p := true) 7 (pv 7))) (pq_int (p := true))) (pwq_and1 (ptq_not (ptq_tr (pq_callL (takes_of rfl rfl rfl rfl) (ok_zlaw_admitted T) (hr.mono (by decide)) (by rfl) T.d_zlaw_admitted.mg T.d_zlaw_admitted.fn.kp T.d_zlaw_admitted.b (paq_cons (pq_var (p := true) 3 (pv 3)) (paq_cons (pq_var (p := true) 8 (pv 8)) (paq_nil (p := true))))))))))
        (psq_one (psq_ret (pq_bl (p := true))))
        psq_nil)))))))
  (psq_one (psq_ret (pq_bl (p := true)))))))))))
theorem ok_law (T : Txt K mg) : FnOk P w K mg base (L2.CX P w) 6 T.a_law T.fd_law ps_law (spF K 1 [] (F_law T.cn)) :=
  def_okD (k := 5) T.d_law sc_law (by decide) (by decide) fun cdv A outer s H E hr =>
  (psq_one (psq_ret (pq_and (pq_is (pq_callL (takes_of rfl rfl rfl rfl) (ok_zlaw_first_half T) (hr.mono (by decide)) (by rfl) T.d_zlaw_first_half.mg T.d_zlaw_first_half.fn.kp T.d_zlaw_first_half.b (paq_cons (pq_var (p := true) 0 (pv 0)) (paq_nil (p := true)))) (pq_bl (p := true))) (pq_one (pq_is (pq_callL (takes_of rfl rfl rfl rfl) (ok_zlaw_second_half T) (hr.mono (by decide)) (by rfl) T.d_zlaw_second_half.mg T.d_zlaw_second_half.fn.kp T.d_zlaw_second_half.b (paq_cons (pq_var (p := true) 0 (pv 0)) (paq_nil (p := true)))) (pq_bl (p := true)))))))
end
/-! the head -/
def D_within : He.DefD := ⟨("within", none), "within", "within", defArgs s_within, defBody s_within, defScope s_within, [], []⟩
def D_frame_of : He.DefD := ⟨("frame_of", none), "frame_of", "frame_of", defArgs s_frame_of, defBody s_frame_of, defScope s_frame_of, [], []⟩
def D_lesser : He.DefD := ⟨("lesser", none), "lesser", "lesser", defArgs s_lesser, defBody s_lesser, defScope s_lesser, [], []⟩
def D_limit_meet : He.DefD := ⟨("limit_meet", none), "limit_meet", "limit_meet", defArgs s_limit_meet, defBody s_limit_meet, defScope s_limit_meet, [], []⟩
def D_frame_meet : He.DefD := ⟨("frame_meet", none), "frame_meet", "frame_meet", defArgs s_frame_meet, defBody s_frame_meet, defScope s_frame_meet, [], []⟩
def D_single : He.DefD := ⟨("single", none), "single", "single", defArgs s_single, defBody s_single, defScope s_single, [], []⟩
def D_complement_closed : He.DefD := ⟨("complement_closed", none), "complement_closed", "complement_closed", defArgs s_complement_closed, defBody s_complement_closed, defScope s_complement_closed, [], []⟩
def D_zlaw_draws : He.DefD := ⟨("_law_draws", none), "_law_draws", "_law_draws", defArgs s_zlaw_draws, defBody s_zlaw_draws, defScope s_zlaw_draws, [], []⟩
def D_zlaw_take : He.DefD := ⟨("_law_take", none), "_law_take", "_law_take", defArgs s_zlaw_take, defBody s_zlaw_take, defScope s_zlaw_take, [], []⟩
def D_zlaw_is_integer : He.DefD := ⟨("_law_is_integer", none), "_law_is_integer", "_law_is_integer", defArgs s_zlaw_is_integer, defBody s_zlaw_is_integer, defScope s_zlaw_is_integer, [], []⟩
def D_zlaw_numbers : He.DefD := ⟨("_law_numbers", none), "_law_numbers", "_law_numbers", defArgs s_zlaw_numbers, defBody s_zlaw_numbers, defScope s_zlaw_numbers, [], []⟩
def D_zlaw_all_numbers : He.DefD := ⟨("_law_all_numbers", none), "_law_all_numbers", "_law_all_numbers", defArgs s_zlaw_all_numbers, defBody s_zlaw_all_numbers, defScope s_zlaw_all_numbers, [], []⟩
def D_zlaw_marking : He.DefD := ⟨("_law_marking", none), "_law_marking", "_law_marking", defArgs s_zlaw_marking, defBody s_zlaw_marking, defScope s_zlaw_marking, [], []⟩
def D_zlaw_markings : He.DefD := ⟨("_law_markings", none), "_law_markings", "_law_markings", defArgs s_zlaw_markings, defBody s_zlaw_markings, defScope s_zlaw_markings, [], []⟩
def D_zlaw_covers : He.DefD := ⟨("_law_covers", none), "_law_covers", "_law_covers", defArgs s_zlaw_covers, defBody s_zlaw_covers, defScope s_zlaw_covers, [], []⟩
def D_zlaw_inside : He.DefD := ⟨("_law_inside", none), "_law_inside", "_law_inside", defArgs s_zlaw_inside, defBody s_zlaw_inside, defScope s_zlaw_inside, [], []⟩
def D_zlaw_admits : He.DefD := ⟨("_law_admits", none), "_law_admits", "_law_admits", defArgs s_zlaw_admits, defBody s_zlaw_admits, defScope s_zlaw_admits, [], []⟩
def D_zlaw_admitted : He.DefD := ⟨("_law_admitted", none), "_law_admitted", "_law_admitted", defArgs s_zlaw_admitted, defBody s_zlaw_admitted, defScope s_zlaw_admitted, [], []⟩
def D_zlaw_within : He.DefD := ⟨("_law_within", none), "_law_within", "_law_within", defArgs s_zlaw_within, defBody s_zlaw_within, defScope s_zlaw_within, [], []⟩
def D_zlaw_greatest : He.DefD := ⟨("_law_greatest", none), "_law_greatest", "_law_greatest", defArgs s_zlaw_greatest, defBody s_zlaw_greatest, defScope s_zlaw_greatest, [], []⟩
def D_zlaw_box : He.DefD := ⟨("_law_box", none), "_law_box", "_law_box", defArgs s_zlaw_box, defBody s_zlaw_box, defScope s_zlaw_box, [], []⟩
def D_zlaw_first_half : He.DefD := ⟨("_law_first_half", none), "_law_first_half", "_law_first_half", defArgs s_zlaw_first_half, defBody s_zlaw_first_half, defScope s_zlaw_first_half, [], []⟩
def D_covers : He.DefD := ⟨("covers", none), "covers", "covers", defArgs s_covers, defBody s_covers, defScope s_covers, [], []⟩
def D_basis_of : He.DefD := ⟨("basis_of", none), "basis_of", "basis_of", defArgs s_basis_of, defBody s_basis_of, defScope s_basis_of, [], []⟩
def D_join : He.DefD := ⟨("join", none), "join", "join", defArgs s_join, defBody s_join, defScope s_join, [], []⟩
def D_meet : He.DefD := ⟨("meet", none), "meet", "meet", defArgs s_meet, defBody s_meet, defScope s_meet, [], []⟩
def D_complement_frame : He.DefD := ⟨("complement_frame", none), "complement_frame", "complement_frame", defArgs s_complement_frame, defBody s_complement_frame, defScope s_complement_frame, [], []⟩
def D_zlaw_least : He.DefD := ⟨("_law_least", none), "_law_least", "_law_least", defArgs s_zlaw_least, defBody s_zlaw_least, defScope s_zlaw_least, [], []⟩
def D_zlaw_limit : He.DefD := ⟨("_law_limit", none), "_law_limit", "_law_limit", defArgs s_zlaw_limit, defBody s_zlaw_limit, defScope s_zlaw_limit, [], []⟩
def D_zlaw_limits : He.DefD := ⟨("_law_limits", none), "_law_limits", "_law_limits", defArgs s_zlaw_limits, defBody s_zlaw_limits, defScope s_zlaw_limits, [], []⟩
def D_zlaw_second_half : He.DefD := ⟨("_law_second_half", none), "_law_second_half", "_law_second_half", defArgs s_zlaw_second_half, defBody s_zlaw_second_half, defScope s_zlaw_second_half, [], []⟩
def D_law : He.DefD := ⟨("law", none), "law", "law", defArgs s_law, defBody s_law, defScope s_law, [], []⟩
def fn : List He.DefD := [D_within, D_frame_of, D_lesser, D_limit_meet, D_frame_meet, D_single, D_complement_closed, D_zlaw_draws, D_zlaw_take, D_zlaw_is_integer, D_zlaw_numbers, D_zlaw_all_numbers, D_zlaw_marking, D_zlaw_markings, D_zlaw_covers, D_zlaw_inside, D_zlaw_admits, D_zlaw_admitted, D_zlaw_within, D_zlaw_greatest, D_zlaw_box, D_zlaw_first_half, D_covers, D_basis_of, D_join, D_meet, D_complement_frame, D_zlaw_least, D_zlaw_limit, D_zlaw_limits, D_zlaw_second_half, D_law]
def fa : List He.Fa := [.glo "within", .glo "frame_of", .glo "lesser", .glo "limit_meet", .glo "frame_meet", .glo "single", .glo "complement_closed", .glo "_law_draws", .glo "_law_take", .glo "_law_is_integer", .glo "_law_numbers", .glo "_law_all_numbers", .glo "_law_marking", .glo "_law_markings", .glo "_law_covers", .glo "_law_inside", .glo "_law_admits", .glo "_law_admitted", .glo "_law_within", .glo "_law_greatest", .glo "_law_box", .glo "_law_first_half", .glo "covers", .glo "basis_of", .glo "join", .glo "meet", .glo "complement_frame", .glo "_law_least", .glo "_law_limit", .glo "_law_limits", .glo "_law_second_half", .glo "law", .free "bool", .free "int", .free "isinstance", .free "len", .free "list", .free "max", .free "min", .free "range", .free "set", .free "sorted", .free "tuple", .int "ANY" (-1)]
abbrev R : PySem.W.OpenRow := PySem.W.OpenLaw.row PySem.Challenge.rw_netguild_k05_complements
def ex : List (PySem.W.Frag → Bool) := []
abbrev hk : PySem.W.Hook := hookE 4 fa fn ex
def ob (s : PySem.W.SharedT) : AlE := obsEG 4 fa fn ex (HandSHeadRun.getT s)
theorem ob_eq (s : PySem.W.SharedT) : ob s = hk.obs s.abs := obsEG_eq (HandSHeadRun.getT_eq s)
def loose : List Str := [("__name__" : Str), ("covers" : Str), ("basis_of" : Str), ("join" : Str), ("meet" : Str), ("ANY" : Str), ("within" : Str), ("frame_of" : Str), ("lesser" : Str), ("limit_meet" : Str), ("frame_meet" : Str), ("single" : Str), ("complement_closed" : Str), ("complement_frame" : Str), ("_law_draws" : Str), ("_law_take" : Str), ("_law_is_integer" : Str), ("_law_numbers" : Str), ("_law_all_numbers" : Str), ("_law_marking" : Str), ("_law_markings" : Str), ("_law_covers" : Str), ("_law_inside" : Str), ("_law_admits" : Str), ("_law_admitted" : Str), ("_law_within" : Str), ("_law_greatest" : Str), ("_law_box" : Str), ("_law_least" : Str), ("_law_limit" : Str), ("_law_limits" : Str), ("_law_first_half" : Str), ("_law_second_half" : Str)]
theorem run (w : World) : HandSHeadRun.RunEq R (PySem.W.view R.prog [36]) hk ob 4000 loose w := by
  intro os
  kernel_rfl
theorem txt {K : PySem.W.Frag} {h : Heap} {mg : Str → Option Value} (X : K.In h) (G : h.Ns mainGlobals mg) (c : SaysE fa fn ex K) : Nonempty (Txt K mg) := by
  obtain ⟨f0, F0⟩ := c.d.def_ 0 (d := D_within) rfl
  obtain ⟨f1, F1⟩ := c.d.def_ 1 (d := D_frame_of) rfl
  obtain ⟨f2, F2⟩ := c.d.def_ 2 (d := D_lesser) rfl
  obtain ⟨f3, F3⟩ := c.d.def_ 3 (d := D_limit_meet) rfl
  obtain ⟨f4, F4⟩ := c.d.def_ 4 (d := D_frame_meet) rfl
  obtain ⟨f5, F5⟩ := c.d.def_ 5 (d := D_single) rfl
  obtain ⟨f6, F6⟩ := c.d.def_ 6 (d := D_complement_closed) rfl
  obtain ⟨f7, F7⟩ := c.d.def_ 7 (d := D_zlaw_draws) rfl
  obtain ⟨f8, F8⟩ := c.d.def_ 8 (d := D_zlaw_take) rfl
  obtain ⟨f9, F9⟩ := c.d.def_ 9 (d := D_zlaw_is_integer) rfl
  obtain ⟨f10, F10⟩ := c.d.def_ 10 (d := D_zlaw_numbers) rfl
  obtain ⟨f11, F11⟩ := c.d.def_ 11 (d := D_zlaw_all_numbers) rfl
  obtain ⟨f12, F12⟩ := c.d.def_ 12 (d := D_zlaw_marking) rfl
  obtain ⟨f13, F13⟩ := c.d.def_ 13 (d := D_zlaw_markings) rfl
  obtain ⟨f14, F14⟩ := c.d.def_ 14 (d := D_zlaw_covers) rfl
  obtain ⟨f15, F15⟩ := c.d.def_ 15 (d := D_zlaw_inside) rfl
  obtain ⟨f16, F16⟩ := c.d.def_ 16 (d := D_zlaw_admits) rfl
  obtain ⟨f17, F17⟩ := c.d.def_ 17 (d := D_zlaw_admitted) rfl
  obtain ⟨f18, F18⟩ := c.d.def_ 18 (d := D_zlaw_within) rfl
  obtain ⟨f19, F19⟩ := c.d.def_ 19 (d := D_zlaw_greatest) rfl
  obtain ⟨f20, F20⟩ := c.d.def_ 20 (d := D_zlaw_box) rfl
  obtain ⟨f21, F21⟩ := c.d.def_ 21 (d := D_zlaw_first_half) rfl
  obtain ⟨f22, F22⟩ := c.d.def_ 22 (d := D_covers) rfl
  obtain ⟨f23, F23⟩ := c.d.def_ 23 (d := D_basis_of) rfl
  obtain ⟨f24, F24⟩ := c.d.def_ 24 (d := D_join) rfl
  obtain ⟨f25, F25⟩ := c.d.def_ 25 (d := D_meet) rfl
  obtain ⟨f26, F26⟩ := c.d.def_ 26 (d := D_complement_frame) rfl
  obtain ⟨f27, F27⟩ := c.d.def_ 27 (d := D_zlaw_least) rfl
  obtain ⟨f28, F28⟩ := c.d.def_ 28 (d := D_zlaw_limit) rfl
  obtain ⟨f29, F29⟩ := c.d.def_ 29 (d := D_zlaw_limits) rfl
  obtain ⟨f30, F30⟩ := c.d.def_ 30 (d := D_zlaw_second_half) rfl
  obtain ⟨f31, F31⟩ := c.d.def_ 31 (d := D_law) rfl
  exact ⟨⟨fun x => He.ga K x,
    _, f0, ⟨F0, He.glo_ok X G (c.d.fact 0 (f := .glo "within") rfl), FunD.bindsN (ps := ps_within) F0 fun _ _ _ _ _ _ us hl => match us, hl with | [_, _], _ => rfl⟩,
    _, f1, ⟨F1, He.glo_ok X G (c.d.fact 1 (f := .glo "frame_of") rfl), FunD.bindsN (ps := ps_frame_of) F1 fun _ _ _ _ _ _ us hl => match us, hl with | [_], _ => rfl⟩,
    _, f2, ⟨F2, He.glo_ok X G (c.d.fact 2 (f := .glo "lesser") rfl), FunD.bindsN (ps := ps_lesser) F2 fun _ _ _ _ _ _ us hl => match us, hl with | [_, _], _ => rfl⟩,
    _, f3, ⟨F3, He.glo_ok X G (c.d.fact 3 (f := .glo "limit_meet") rfl), FunD.bindsN (ps := ps_limit_meet) F3 fun _ _ _ _ _ _ us hl => match us, hl with | [_, _], _ => rfl⟩,
    _, f4, ⟨F4, He.glo_ok X G (c.d.fact 4 (f := .glo "frame_meet") rfl), FunD.bindsN (ps := ps_frame_meet) F4 fun _ _ _ _ _ _ us hl => match us, hl with | [_, _], _ => rfl⟩,
    _, f5, ⟨F5, He.glo_ok X G (c.d.fact 5 (f := .glo "single") rfl), FunD.bindsN (ps := ps_single) F5 fun _ _ _ _ _ _ us hl => match us, hl with | [_, _, _, _], _ => rfl⟩,
    _, f6, ⟨F6, He.glo_ok X G (c.d.fact 6 (f := .glo "complement_closed") rfl), FunD.bindsN (ps := ps_complement_closed) F6 fun _ _ _ _ _ _ us hl => match us, hl with | [_, _], _ => rfl⟩,
    _, f7, ⟨F7, He.glo_ok X G (c.d.fact 7 (f := .glo "_law_draws") rfl), FunD.bindsN (ps := ps_zlaw_draws) F7 fun _ _ _ _ _ _ us hl => match us, hl with | [_, _], _ => rfl⟩,
    _, f8, ⟨F8, He.glo_ok X G (c.d.fact 8 (f := .glo "_law_take") rfl), FunD.bindsN (ps := ps_zlaw_take) F8 fun _ _ _ _ _ _ us hl => match us, hl with | [_, _], _ => rfl⟩,
    _, f9, ⟨F9, He.glo_ok X G (c.d.fact 9 (f := .glo "_law_is_integer") rfl), FunD.bindsN (ps := ps_zlaw_is_integer) F9 fun _ _ _ _ _ _ us hl => match us, hl with | [_], _ => rfl⟩,
    _, f10, ⟨F10, He.glo_ok X G (c.d.fact 10 (f := .glo "_law_numbers") rfl), FunD.bindsN (ps := ps_zlaw_numbers) F10 fun _ _ _ _ _ _ us hl => match us, hl with | [_, _, _], _ => rfl⟩,
    _, f11, ⟨F11, He.glo_ok X G (c.d.fact 11 (f := .glo "_law_all_numbers") rfl), FunD.bindsN (ps := ps_zlaw_all_numbers) F11 fun _ _ _ _ _ _ us hl => match us, hl with | [_, _, _], _ => rfl⟩,
    _, f12, ⟨F12, He.glo_ok X G (c.d.fact 12 (f := .glo "_law_marking") rfl), FunD.bindsN (ps := ps_zlaw_marking) F12 fun _ _ _ _ _ _ us hl => match us, hl with | [_, _, _], _ => rfl⟩,
    _, f13, ⟨F13, He.glo_ok X G (c.d.fact 13 (f := .glo "_law_markings") rfl), FunD.bindsN (ps := ps_zlaw_markings) F13 fun _ _ _ _ _ _ us hl => match us, hl with | [_, _, _, _], _ => rfl⟩,
    _, f14, ⟨F14, He.glo_ok X G (c.d.fact 14 (f := .glo "_law_covers") rfl), FunD.bindsN (ps := ps_zlaw_covers) F14 fun _ _ _ _ _ _ us hl => match us, hl with | [_, _], _ => rfl⟩,
    _, f15, ⟨F15, He.glo_ok X G (c.d.fact 15 (f := .glo "_law_inside") rfl), FunD.bindsN (ps := ps_zlaw_inside) F15 fun _ _ _ _ _ _ us hl => match us, hl with | [_, _], _ => rfl⟩,
    _, f16, ⟨F16, He.glo_ok X G (c.d.fact 16 (f := .glo "_law_admits") rfl), FunD.bindsN (ps := ps_zlaw_admits) F16 fun _ _ _ _ _ _ us hl => match us, hl with | [_, _], _ => rfl⟩,
    _, f17, ⟨F17, He.glo_ok X G (c.d.fact 17 (f := .glo "_law_admitted") rfl), FunD.bindsN (ps := ps_zlaw_admitted) F17 fun _ _ _ _ _ _ us hl => match us, hl with | [_, _], _ => rfl⟩,
    _, f18, ⟨F18, He.glo_ok X G (c.d.fact 18 (f := .glo "_law_within") rfl), FunD.bindsN (ps := ps_zlaw_within) F18 fun _ _ _ _ _ _ us hl => match us, hl with | [_, _], _ => rfl⟩,
    _, f19, ⟨F19, He.glo_ok X G (c.d.fact 19 (f := .glo "_law_greatest") rfl), FunD.bindsN (ps := ps_zlaw_greatest) F19 fun _ _ _ _ _ _ us hl => match us, hl with | [_], _ => rfl⟩,
    _, f20, ⟨F20, He.glo_ok X G (c.d.fact 20 (f := .glo "_law_box") rfl), FunD.bindsN (ps := ps_zlaw_box) F20 fun _ _ _ _ _ _ us hl => match us, hl with | [_, _], _ => rfl⟩,
    _, f21, ⟨F21, He.glo_ok X G (c.d.fact 21 (f := .glo "_law_first_half") rfl), FunD.bindsN (ps := ps_zlaw_first_half) F21 fun _ _ _ _ _ _ us hl => match us, hl with | [_], _ => rfl⟩,
    _, f22, ⟨F22, He.glo_ok X G (c.d.fact 22 (f := .glo "covers") rfl), FunD.bindsN (ps := ps_covers) F22 fun _ _ _ _ _ _ us hl => match us, hl with | [_, _], _ => rfl⟩,
    _, f23, ⟨F23, He.glo_ok X G (c.d.fact 23 (f := .glo "basis_of") rfl), FunD.bindsN (ps := ps_basis_of) F23 fun _ _ _ _ _ _ us hl => match us, hl with | [_], _ => rfl⟩,
    _, f24, ⟨F24, He.glo_ok X G (c.d.fact 24 (f := .glo "join") rfl), FunD.bindsN (ps := ps_join) F24 fun _ _ _ _ _ _ us hl => match us, hl with | [_, _], _ => rfl⟩,
    _, f25, ⟨F25, He.glo_ok X G (c.d.fact 25 (f := .glo "meet") rfl), FunD.bindsN (ps := ps_meet) F25 fun _ _ _ _ _ _ us hl => match us, hl with | [_, _], _ => rfl⟩,
    _, f26, ⟨F26, He.glo_ok X G (c.d.fact 26 (f := .glo "complement_frame") rfl), FunD.bindsN (ps := ps_complement_frame) F26 fun _ _ _ _ _ _ us hl => match us, hl with | [_, _], _ => rfl⟩,
    _, f27, ⟨F27, He.glo_ok X G (c.d.fact 27 (f := .glo "_law_least") rfl), FunD.bindsN (ps := ps_zlaw_least) F27 fun _ _ _ _ _ _ us hl => match us, hl with | [_], _ => rfl⟩,
    _, f28, ⟨F28, He.glo_ok X G (c.d.fact 28 (f := .glo "_law_limit") rfl), FunD.bindsN (ps := ps_zlaw_limit) F28 fun _ _ _ _ _ _ us hl => match us, hl with | [_, _, _], _ => rfl⟩,
    _, f29, ⟨F29, He.glo_ok X G (c.d.fact 29 (f := .glo "_law_limits") rfl), FunD.bindsN (ps := ps_zlaw_limits) F29 fun _ _ _ _ _ _ us hl => match us, hl with | [_, _, _, _], _ => rfl⟩,
    _, f30, ⟨F30, He.glo_ok X G (c.d.fact 30 (f := .glo "_law_second_half") rfl), FunD.bindsN (ps := ps_zlaw_second_half) F30 fun _ _ _ _ _ _ us hl => match us, hl with | [_], _ => rfl⟩,
    _, f31, ⟨F31, He.glo_ok X G (c.d.fact 31 (f := .glo "law") rfl), FunD.bindsN (ps := ps_law) F31 fun _ _ _ _ _ _ us hl => match us, hl with | [_], _ => rfl⟩,
    He.free_ok X G (c.d.fact 32 (f := .free "bool") rfl),
    He.free_ok X G (c.d.fact 33 (f := .free "int") rfl),
    He.free_ok X G (c.d.fact 34 (f := .free "isinstance") rfl),
    He.free_ok X G (c.d.fact 35 (f := .free "len") rfl),
    He.free_ok X G (c.d.fact 36 (f := .free "list") rfl),
    He.free_ok X G (c.d.fact 37 (f := .free "max") rfl),
    He.free_ok X G (c.d.fact 38 (f := .free "min") rfl),
    He.free_ok X G (c.d.fact 39 (f := .free "range") rfl),
    He.free_ok X G (c.d.fact 40 (f := .free "set") rfl),
    He.free_ok X G (c.d.fact 41 (f := .free "sorted") rfl),
    He.free_ok X G (c.d.fact 42 (f := .free "tuple") rfl),
    He.int_ok X G (c.d.fact 43 (f := .int "ANY" (-1)) rfl),
    fun s v => FunD.bindsA (ps := ps_law) F31 (fun _ _ _ _ _ _ us hl => match us, hl with | [_], _ => rfl) s [v] rfl⟩⟩
theorem holds_of (top : ∀ (cn : Str → Addr) (ns : List Int), ns.length ≤ 63 → F_law cn [.z (.kls (ns.map .int))] = some (.rt (.z (.bl true)) [])) : PySem.Challenge.rw_netguild_k05_complements.Holds := by
  open PySem.W PySem.Calls in
  w_on; o_law
  refine HandSHeadRun.head_any (r := OpenLaw.row PySem.Challenge.rw_netguild_k05_complements) (q := view (OpenLaw.row PySem.Challenge.rw_netguild_k05_complements).prog [36]) (H := hk) (ob := ob) (M := 4000) (loose := loose) (d := HandSHeadRun.topDef (OpenLaw.row PySem.Challenge.rw_netguild_k05_complements).prog 36) (kwd := []) ob_eq
    (by kernel_rfl) (fun s => by kernel_rfl) run (by kernel_rfl) (by kernel_rfl) (by kernel_rfl) (by rfl) (by first | assumption | decide +kernel) (by decide +kernel) ⟨rfl, rfl, rfl, rfl, rfl, by decide +kernel⟩ ?hw ?hc
  case hw => w_witness2
  case hc =>
    refine L2.walk_ofE (l := PySem.Challenge.rw_netguild_k05_complements) (n := 63) (k := 6) (x := "script") (CX := L2.CX0) rfl (by decide) (by kernel_rfl) ⟨rfl, by decide, by decide⟩ ?F (fun _ _ _ _ z => z)
    intro w mg f0 h Y G hmg0
    obtain ⟨K, KX, c⟩ := Y
    have hmg : mg ("law" : PySem.Str) = some (.ref f0) := by
      have e : (HandSHeadRun.topDef (OpenLaw.row PySem.Challenge.rw_netguild_k05_complements).prog 36).name = ("law" : PySem.Str) := by kernel_rfl
      rw [← e]
      exact hmg0
    obtain ⟨T⟩ := txt KX G c
    have e := hmg.symm.trans T.d_law.mg
    cases e
    exact ⟨K, T.fd_law, DL.spLaw K, KX, T.bl, fun H a ns hl _ hS => ⟨a, ns, rfl, hS, hl, fun _ => rfl⟩, fun base _ _ => DL.law_fn (ok_law T) (top T.cn)⟩
end DL.k05

/-! k05: what the program's functions are -/
namespace DL.k05
open PySem PySem.Spec PyProof.Rows L2 DL
noncomputable abbrev FAll' : FSem := fnOf 3 4 [] (gAll FNum)
noncomputable abbrev FGr' : FSem := fnOf 1 5 [] (gLeast FWinL)
noncomputable abbrev FInL' : FSem := fnOf 2 3 [] (gAnyIt (tIn FAdmL))
noncomputable abbrev FFM' : FSem := fnOf 2 5 [] (gMeet FLMeet FFr)
noncomputable abbrev FMt' : FSem := fnOf 2 5 [] (gMeet FJoin FBas)
noncomputable abbrev FLims' : FSem := fnOf 4 5 [true] (gMarks FLim)
noncomputable abbrev FMarks' : FSem := fnOf 4 5 [true] (gMarks FMark)
section
variable (cn : Str → Addr)
theorem x1 : F_zlaw_draws cn = FDraws := rfl
theorem x2 : F_zlaw_take cn = FTake := rfl
theorem x4 : F_zlaw_markings cn = FMarks' := rfl
theorem x6 : F_zlaw_limits cn = FLims' := rfl
theorem x9 : F_zlaw_greatest cn = FGr' := rfl
theorem x10 : F_zlaw_all_numbers cn = FAll' := rfl
theorem x12 : F_zlaw_admitted cn = FInL' := rfl
theorem x16 : F_zlaw_admits cn = FAdmL := rfl
theorem x18 : F_frame_meet cn = FFM' := rfl
theorem x19 : F_meet cn = FMt' := rfl
theorem x20 : F_zlaw_least cn = fnOf 1 5 [] (gLeast FCov) := rfl
theorem x21 : F_zlaw_inside cn = FIns := rfl
end
end DL.k05

/-! k05: complements evaluated -/
namespace DL.k05
open PySem PySem.Spec PyProof.Rows L2 DL
abbrev TL' (ms : List (List Int)) : T := .lst (ms.map fun v => .z (dT v))
theorem rngD_at {n : Nat} {p q : List D} {d : D} (h : rngD 0 n = p ++ d :: q) : d = .int (p.length : Int) ∧ p.length < n := by
  have hl := congrArg List.length h
  rw [rngD_length] at hl
  simp at hl
  have hp : p.length < n := by omega
  refine ⟨?_, hp⟩
  have h1 : (p ++ d :: q)[p.length]? = some d := by simp
  rw [← h, rngD_map] at h1
  simp [hp] at h1
  exact h1.symm
theorem atIi' {xs : List Int} {k : Nat} (h : k < xs.length) : atI (xs.map D.int) (k : Int) = some (.int (xs.getD k 0)) := by
  rw [atI_get _ _ (by simpa using h)]
  simp [List.getD_eq_getElem?_getD, List.getElem?_eq_getElem h]
section
variable (cn : Str → Addr)
theorem hSingle (n p : Nat) (v r : Int) (hn : n < 10000) (hp : p < n) : F_single cn [iT n, iT p, iT v, iT r] = some (.rt (.z (dT (singL n p v r))) []) := by
  have h2 : inB 63 (n : Int) = true := inB_nat (by have : (10000 : Int) < 2 ^ 63 := by decide
                                                   omega)
  have h3 : n ≤ sizeLine := by have := sizeLine_val; omega
  have h4 : 1 ≤ sizeLine := by have := sizeLine_val; omega
  have hf : (List.replicate n [D.int r]).flatten = List.replicate n (D.int r) := by
    clear hp hn h2 h3
    induction n with
    | zero => rfl
    | succ n ih => rw [List.replicate_succ, List.flatten_cons, List.replicate_succ, ih]; rfl
  have hi : ixN n (p : Int) = some p := ixN_get n p hp
  refine fn_rt (e := [some (iT n), some (iT p), some (iT v), some (iT r), some (.lst ((singL n p v r).map iT))]) rfl ?_
  unfold g_single
  refine seq_nx (e := [some (iT n), some (iT p), some (iT v), some (iT r), some (.lst ((List.replicate n r).map iT))]) (by simp [h2, h3, h4, hf, zs]) ?_
  refine seq_nx (e := [some (iT n), some (iT p), some (iT v), some (iT r), some (.lst ((singL n p v r).map iT))]) ?_ ?_
  · have hl : ((List.replicate n r).map iT).length = n := by simp
    have hs : ((List.replicate n r).map iT).set p (iT v) = (singL n p v r).map iT := by rw [singL, List.map_set]
    generalize (List.replicate n r).map iT = L at hl hs ⊢
    simp [hl, hi, hs]
  · have hz := zs_mapz D.int (singL n p v r)
    generalize singL n p v r = S at hz ⊢
    simp [hz, dT]
theorem gath {B : SM} (e0 e1 e2 e3 : Option T) (q : Nat → Bool) (g : Nat → List Int) (n : Nat) (hn : n < 1000) (hB : ∀ (j : Nat) (bs : List (List Int)), j < n → bs.length < 1000 → B [e0, e1, e2, e3, some (TL' bs), some (iT j)] = some (.nx [e0, e1, e2, e3, some (TL' (if q j = true then bs ++ [g j] else bs)), some (iT j)])) (o : Option T) :
    ∃ o', forF (gmName 5) B (rngD 0 n) [e0, e1, e2, e3, some (TL' []), o] = some (.nx [e0, e1, e2, e3, some (TL' (((List.range n).filter q).map g)), o']) := by
  obtain ⟨e, h, o', rfl⟩ := forF_inv (s := gmName 5) (g := B) (ds := rngD 0 n) (env := [e0, e1, e2, e3, some (TL' []), o])
    (fun p e => ∃ o', e = [e0, e1, e2, e3, some (TL' (((List.range p.length).filter q).map g)), o']) ⟨o, rfl⟩ (fun p d qs env hd ⟨o', he⟩ => by
      subst he
      obtain ⟨rfl, hp⟩ := rngD_at hd
      have hl : (((List.range p.length).filter q).map g).length < 1000 := by
        rw [List.length_map]
        have := List.length_filter_le q (List.range p.length)
        simp at this
        omega
      refine ⟨_, _, rfl, .inl (hB p.length _ hp hl), some (iT p.length), ?_⟩
      rw [List.length_append, List.length_singleton, List.range_succ, List.filter_append, List.map_append]
      cases hq : q p.length <;> simp [hq])
  rw [rngD_length] at h
  exact ⟨o', h⟩
noncomputable abbrev ccI : SM := (sIfS (sTb (sO oGt (sCons true (sO oIx (sCons true (sVar 3) (sCons true (sVar 5) sNil))) (sCons true (sC (.int 0)) sNil))))
        (sApp 4 (sCallL 4 (F_single cn) (sCons true (sVar 1) (sCons true (sVar 5) (sCons true (sO oSub (sCons true (sO oIx (sCons true (sVar 3) (sCons true (sVar 5) sNil))) (sCons true (sC (.int 1)) sNil))) (sCons true (sC (.int (-1))) sNil))))))
        sNext)
noncomputable abbrev ccB : SM := (sSeq (sSet 4 (sTake hLst sNil))
    (sSeq (sForR gRng1 (sCons true (sVar 1) sNil) (gmName 5) (ccI cn))
    (sSet 2 (sCallL 2 (F_frame_meet cn) (sCons true (sVar 2) (sCons true (sVar 4) sNil))))))
theorem ccB_ev (n : Nat) (hn : n < 1000) (h0 : 0 < n) (f : List (List Int)) (hf : ∀ l ∈ f, Lim n l) (m : List Int) (hm : m.length = n) (hs : f.length * (belowL n m).length < 64) (e0 o4 o5 : Option T) : ∃ o4' o5',
    ccB cn [e0, some (iT n), some (TL' f), some (.z (dT m)), o4, o5] = some (.nx [e0, some (iT n), some (TL' (ccStep n f m)), some (.z (dT m)), o4', o5']) := by
  obtain ⟨o5', h⟩ := gath (B := ccI cn) e0 (some (iT n)) (some (TL' f)) (some (.z (dT m))) (fun p => decide (0 < m.getD p 0)) (fun p => singL n p (m.getD p 0 - 1) (-1)) n hn (fun j bs hj hbs => by
    have a1 := atIi' (xs := m) (k := j) (by omega)
    have hsg := hSingle cn n j (m.getD j 0 - 1) (-1) (by omega) hj
    have z1 : bs.length < sizeLine := by have := sizeLine_val; omega
    by_cases hq : 0 < m.getD j 0
    · simp only [hq, decide_true, if_true]
      generalize singL n j (m.getD j 0 - 1) (-1) = S at hsg ⊢
      generalize m.getD j 0 = v at a1 hsg hq
      have hdT : dT m = .tup (m.map .int) := rfl
      rw [hdT]
      generalize m.map D.int = M at a1 ⊢
      generalize TL' f = FF
      refine ifS_t (e := [e0, some (iT n), some FF, some (.z (.tup M)), some (TL' bs), some (iT j)]) (by simp [a1, hq]) ?_
      have hS : (dT S).imm = true := by simp [dT]
      simp [a1, hsg, z1]
    · simp only [hq, decide_false, Bool.false_eq_true, if_false]
      generalize m.getD j 0 = v at a1 hq
      have hdT : dT m = .tup (m.map .int) := rfl
      rw [hdT]
      generalize m.map D.int = M at a1 ⊢
      generalize TL' f = FF
      exact ifS_f (e := [e0, some (iT n), some FF, some (.z (.tup M)), some (TL' bs), some (iT j)]) (by simp [a1, hq]) rfl) o5
  have hfm : F_frame_meet cn [.z (LT f), .z (LT (belowL n m))] = some (.rt (TL' (ccStep n f m)) []) := by
    rw [x18]
    exact frameMeet_ev f (belowL n m) n (by omega) h0 hf (fun b hb => below_lim hb) hs
  have hcl := cl_dT (ccStep n f m)
  have e1 : T.ers (f.map fun v => T.z (dT v)) = f.map dT := ers_mapf dT f
  have e2 : T.ers ((belowL n m).map fun v => T.z (dT v)) = (belowL n m).map dT := ers_mapf dT (belowL n m)
  refine ⟨some (TL' (belowL n m)), o5', ?_⟩
  refine seq_nx (e := [e0, some (iT n), some (TL' f), some (.z (dT m)), some (TL' []), o5]) (by simp) ?_
  refine seq_nx (e := [e0, some (iT n), some (TL' f), some (.z (dT m)), some (TL' (belowL n m)), o5']) ((forR1_ev (n := n) (by simp) (by omega)).trans h) ?_
  have e3 : T.ers (f.map (T.z ∘ dT)) = f.map dT := e1
  have e4 : T.ers ((belowL n m).map (T.z ∘ dT)) = (belowL n m).map dT := e2
  generalize belowL n m = B at e2 e4 hfm ⊢
  generalize ccStep n f m = S at hfm hcl ⊢
  simp [e1, e2, e3, e4, hfm, hcl]
end
end DL.k05

/-! k05: complements as a whole, the box -/
namespace DL.k05
open PySem PySem.Spec PyProof.Rows L2 DL
def okL (n : Nat) : Nat → List (List Int) → Prop
  | _, [] => True
  | t, m :: ms => (t ≤ 3 ∨ belowL n m = []) ∧ okL n (t + 1) ms
theorem okL_few {n : Nat} : ∀ {ms : List (List Int)} {t : Nat}, t + ms.length ≤ 4 → okL n t ms
  | [], _, _ => trivial
  | m :: ms, t, h => by
    rw [List.length_cons] at h
    exact ⟨.inl (by omega), okL_few (by omega)⟩
theorem okL_app {n : Nat} {z : List Int} (hz : belowL n z = []) : ∀ {ms : List (List Int)} {t : Nat}, okL n t ms → okL n t (ms ++ [z])
  | [], _, _ => ⟨.inr hz, trivial⟩
  | m :: ms, t, h => ⟨h.1, okL_app hz h.2⟩
section
variable (cn : Str → Addr)
theorem cc_loop (n : Nat) (hn : n ≤ 3) (h0 : 0 < n) (e0 : Option T) : ∀ (ms : List (List Int)) (f : List (List Int)) (V : Nat → List Int) (t : Nat), CC n V f → (∀ k, k < n → (-1 : Int) ∈ V k) → (∀ k, (V k).length = 1 + t) → okL n t ms → (∀ m ∈ ms, m.length = n) → ∀ (o3 o4 o5 : Option T), ∃ o3' o4' o5',
    forF (gmName 3) (ccB cn) (ms.map dT) [e0, some (iT n), some (TL' f), o3, o4, o5] = some (.nx [e0, some (iT n), some (TL' (ms.foldl (ccStep n) f)), o3', o4', o5'])
  | [], f, V, t, _, _, _, _, _, o3, o4, o5 => ⟨o3, o4, o5, rfl⟩
  | m :: ms, f, V, t, hc, hb, hV, hok, hm, o3, o4, o5 => by
    have hsz := hc.size h0 hn
    rw [hV, hV] at hsz
    have hbl := below_len n m
    have hs : f.length * (belowL n m).length < 64 := by
      rcases hok.1 with ht | he
      · have h1 : (1 + t) * (1 + t + 1) ≤ 4 * 5 := Nat.mul_le_mul (by omega) (by omega)
        have h2 : f.length * (belowL n m).length ≤ 20 * 3 := Nat.mul_le_mul (by omega) (by omega)
        omega
      · rw [he]; simp
    obtain ⟨o4', o5', b⟩ := ccB_ev cn n (by omega) h0 f hc.lim m (hm m List.mem_cons_self) hs e0 o4 o5
    obtain ⟨o3'', o4'', o5'', h⟩ := cc_loop n hn h0 e0 ms (ccStep n f m) _ (t + 1) (hc.step hb m) (fun k hk => List.mem_cons_of_mem _ (hb k hk)) (fun k => by rw [List.length_cons, hV k]; omega) hok.2 (fun z hz => hm z (List.mem_cons_of_mem _ hz)) (some (.z (dT m))) o4' o5'
    refine ⟨o3'', o4'', o5'', ?_⟩
    rw [List.map_cons, forF]
    have e1 : gmName 3 (.z (dT m)) [e0, some (iT n), some (TL' f), o3, o4, o5] = some [e0, some (iT n), some (TL' f), some (.z (dT m)), o4, o5] := rfl
    rw [e1]
    simp only [b]
    exact h
theorem rep_tup (n : Nat) (r : Int) : D.tup (List.replicate n (.int r)) = dT (List.replicate n r) := by simp [dT]
theorem hCC (n : Nat) (hn : n ≤ 3) (h0 : 0 < n) (ms : List (List Int)) (hok : okL n 0 ms) (hm : ∀ m ∈ ms, m.length = n) : F_complement_closed cn [.z (LT ms), iT n] = some (.rt (TL' (ccL n ms)) []) := by
  obtain ⟨o3, o4, o5, h⟩ := cc_loop cn n hn h0 (some (.z (LT ms))) ms _ _ 0 (CC.start n) (fun k _ => by simp) (fun k => rfl) hok hm none none none
  refine fn_rt (e := [some (.z (LT ms)), some (iT n), none, o3, o4, o5]) rfl ?_
  unfold g_complement_closed
  have h4 : 1 ≤ sizeLine := by have := sizeLine_val; omega
  have hf : (List.replicate n [D.int (-1)]).flatten = List.replicate n (D.int (-1)) := by
    clear hn h0 h hok hm
    induction n with
    | zero => rfl
    | succ n ih => rw [List.replicate_succ, List.flatten_cons, List.replicate_succ, ih]; rfl
  have a1 : (1 : Int) ≤ n := by omega
  have a2 : (n : Int) ≤ 1000 := by omega
  have a3 : n ≤ 1000 := by omega
  have a5 : 1 ≤ n := by omega
  have hr := rep_tup n (-1)
  refine seq_nx (e := [some (.z (LT ms)), some (iT n), some (TL' [List.replicate n (-1)]), none, none, none]) ?_ ?_
  · have e1 : TL' [List.replicate n (-1)] = .lst [.z (.tup (List.replicate n (.int (-1))))] := by rw [hr]; rfl
    rw [e1]
    simp [h4, hf, a1, a2, a3, a5, h0]
  refine seq_nx (e := [some (.z (LT ms)), some (iT n), some (TL' (ccL n ms)), o3, o4, o5]) ?_ (by simp)
  rw [sForN_ap]
  exact h
noncomputable abbrev cfI : SM := (sIfS (sTb (sO (oS gNe) (sCons true (sO oIx (sCons true (sVar 3) (sCons true (sVar 5) sNil))) (sCons true (sC (.int (-1))) sNil))))
        (sApp 4 (sCallL 4 (F_single cn) (sCons true (sVar 1) (sCons true (sVar 5) (sCons true (sO oAdd (sCons true (sO oIx (sCons true (sVar 3) (sCons true (sVar 5) sNil))) (sCons true (sC (.int 1)) sNil))) (sCons true (sC (.int 0)) sNil))))))
        sNext)
noncomputable abbrev cfB : SM := (sSeq (sSet 4 (sTake hLst sNil))
    (sSeq (sForR gRng1 (sCons true (sVar 1) sNil) (gmName 5) (cfI cn))
    (sSet 2 (sCallL 2 (F_meet cn) (sCons true (sVar 2) (sCons true (sVar 4) sNil))))))
theorem cfB_ev (n : Nat) (hn : n < 1000) (h0 : 0 < n) (f : List (List Int)) (hf : ∀ l ∈ f, l.length = n) (m : List Int) (hm : Lim n m) (hs : f.length * (aboveL n m).length < 64) (e0 o4 o5 : Option T) : ∃ o4' o5',
    cfB cn [e0, some (iT n), some (TL' f), some (.z (dT m)), o4, o5] = some (.nx [e0, some (iT n), some (TL' (cfStep n f m)), some (.z (dT m)), o4', o5']) := by
  obtain ⟨o5', h⟩ := gath (B := cfI cn) e0 (some (iT n)) (some (TL' f)) (some (.z (dT m))) (fun p => decide (m.getD p 0 ≠ -1)) (fun p => singL n p (m.getD p 0 + 1) 0) n hn (fun j bs hj hbs => by
    have a1 := atIi' (xs := m) (k := j) (by rw [hm.1]; exact hj)
    have hsg := hSingle cn n j (m.getD j 0 + 1) 0 (by omega) hj
    have z1 : bs.length < sizeLine := by have := sizeLine_val; omega
    by_cases hq : m.getD j 0 = -1
    · simp only [hq, ne_eq, not_true_eq_false, decide_false, Bool.false_eq_true, if_false]
      rw [hq] at a1
      have hdT : dT m = .tup (m.map .int) := rfl
      rw [hdT]
      generalize m.map D.int = M at a1 ⊢
      generalize TL' f = FF
      exact ifS_f (e := [e0, some (iT n), some FF, some (.z (.tup M)), some (TL' bs), some (iT j)]) (by simp [a1]) rfl
    · simp only [hq, ne_eq, not_false_eq_true, decide_true, if_true]
      generalize singL n j (m.getD j 0 + 1) 0 = S at hsg ⊢
      generalize m.getD j 0 = v at a1 hsg hq
      have hdT : dT m = .tup (m.map .int) := rfl
      rw [hdT]
      generalize m.map D.int = M at a1 ⊢
      generalize TL' f = FF
      refine ifS_t (e := [e0, some (iT n), some FF, some (.z (.tup M)), some (TL' bs), some (iT j)]) (by simp [a1, hq]) ?_
      simp [a1, hsg, z1]) o5
  have hfm : F_meet cn [.z (LT f), .z (LT (aboveL n m))] = some (.rt (TL' (cfStep n f m)) []) := by
    rw [x19]
    exact meet_ev f (aboveL n m) n (by omega) h0 hf (fun b hb => (above_ok hm hb).1) hs
  have hcl := cl_dT (cfStep n f m)
  have e1 : T.ers (f.map fun v => T.z (dT v)) = f.map dT := ers_mapf dT f
  have e2 : T.ers ((aboveL n m).map fun v => T.z (dT v)) = (aboveL n m).map dT := ers_mapf dT (aboveL n m)
  refine ⟨some (TL' (aboveL n m)), o5', ?_⟩
  refine seq_nx (e := [e0, some (iT n), some (TL' f), some (.z (dT m)), some (TL' []), o5]) (by simp) ?_
  refine seq_nx (e := [e0, some (iT n), some (TL' f), some (.z (dT m)), some (TL' (aboveL n m)), o5']) ((forR1_ev (n := n) (by simp) (by omega)).trans h) ?_
  have e3 : T.ers (f.map (T.z ∘ dT)) = f.map dT := e1
  have e4 : T.ers ((aboveL n m).map (T.z ∘ dT)) = (aboveL n m).map dT := e2
  generalize aboveL n m = B at e2 e4 hfm ⊢
  generalize cfStep n f m = S at hfm hcl ⊢
  simp [e1, e2, e3, e4, hfm, hcl]
theorem cf_loop (n : Nat) (hn : n ≤ 3) (h0 : 0 < n) (e0 : Option T) : ∀ (ms : List (List Int)) (f : List (List Int)) (V : Nat → List Int) (t : Nat), CF n V f → (∀ k, k < n → (0 : Int) ∈ V k) → (∀ k, (V k).length = 1 + t) → t + ms.length ≤ 4 → (∀ m ∈ ms, Lim n m) → ∀ (o3 o4 o5 : Option T), ∃ o3' o4' o5',
    forF (gmName 3) (cfB cn) (ms.map dT) [e0, some (iT n), some (TL' f), o3, o4, o5] = some (.nx [e0, some (iT n), some (TL' (ms.foldl (cfStep n) f)), o3', o4', o5'])
  | [], f, V, t, _, _, _, _, _, o3, o4, o5 => ⟨o3, o4, o5, rfl⟩
  | m :: ms, f, V, t, hc, hb, hV, hok, hm, o3, o4, o5 => by
    have hsz := hc.size h0 hn
    rw [hV, hV] at hsz
    have hbl := above_len n m
    rw [List.length_cons] at hok
    have hs : f.length * (aboveL n m).length < 64 := by
      have h1 : (1 + t) * (1 + t + 1) ≤ 4 * 5 := Nat.mul_le_mul (by omega) (by omega)
      have h2 : f.length * (aboveL n m).length ≤ 20 * 3 := Nat.mul_le_mul (by omega) (by omega)
      omega
    obtain ⟨o4', o5', b⟩ := cfB_ev cn n (by omega) h0 f hc.len m (hm m List.mem_cons_self) hs e0 o4 o5
    obtain ⟨o3'', o4'', o5'', h⟩ := cf_loop n hn h0 e0 ms (cfStep n f m) _ (t + 1) (hc.step hb m (hm m List.mem_cons_self)) (fun k hk => List.mem_cons_of_mem _ (hb k hk)) (fun k => by rw [List.length_cons, hV k]; omega) (by omega) (fun z hz => hm z (List.mem_cons_of_mem _ hz)) (some (.z (dT m))) o4' o5'
    refine ⟨o3'', o4'', o5'', ?_⟩
    rw [List.map_cons, forF]
    have e1 : gmName 3 (.z (dT m)) [e0, some (iT n), some (TL' f), o3, o4, o5] = some [e0, some (iT n), some (TL' f), some (.z (dT m)), o4, o5] := rfl
    rw [e1]
    simp only [b]
    exact h
theorem hCF (n : Nat) (hn : n ≤ 3) (h0 : 0 < n) (ms : List (List Int)) (hl : ms.length ≤ 4) (hm : ∀ m ∈ ms, Lim n m) : F_complement_frame cn [.z (LT ms), iT n] = some (.rt (TL' (cfL n ms)) []) := by
  obtain ⟨o3, o4, o5, h⟩ := cf_loop cn n hn h0 (some (.z (LT ms))) ms _ _ 0 (CF.start n) (fun k _ => by simp) (fun k => rfl) (by omega) hm none none none
  refine fn_rt (e := [some (.z (LT ms)), some (iT n), none, o3, o4, o5]) rfl ?_
  unfold g_complement_frame
  have h4 : 1 ≤ sizeLine := by have := sizeLine_val; omega
  have hf : (List.replicate n [D.int 0]).flatten = List.replicate n (D.int 0) := by
    clear hn h0 h hm
    induction n with
    | zero => rfl
    | succ n ih => rw [List.replicate_succ, List.flatten_cons, List.replicate_succ, ih]; rfl
  have a1 : (1 : Int) ≤ n := by omega
  have a2 : (n : Int) ≤ 1000 := by omega
  have a3 : n ≤ 1000 := by omega
  have a5 : 1 ≤ n := by omega
  have hr := rep_tup n 0
  refine seq_nx (e := [some (.z (LT ms)), some (iT n), some (TL' [List.replicate n 0]), none, none, none]) ?_ ?_
  · have e1 : TL' [List.replicate n 0] = .lst [.z (.tup (List.replicate n (.int 0)))] := by rw [hr]; rfl
    rw [e1]
    simp [h4, hf, a1, a2, a3, a5, h0]
  refine seq_nx (e := [some (.z (LT ms)), some (iT n), some (TL' (cfL n ms)), o3, o4, o5]) ?_ (by simp)
  rw [sForN_ap]
  exact h
end
end DL.k05

/-! k05: the box -/
namespace DL.k05
open PySem PySem.Spec PyProof.Rows L2 DL
def Bx (j : Nat) (f : List (List Int)) : Prop := ∀ v ∈ f, v.length = j ∧ ∀ y ∈ v, (0 : Int) ≤ y
noncomputable abbrev bx1 : SM := (sApp 4 (sO oAdd (sCons false (sVar 5) (sCons true (sTake hTup (sCons true (sVar 6) sNil)) sNil))))
noncomputable abbrev bx2 : SM := (sForR gRng1 (sCons true (sO oAdd (sCons true (sVar 1) (sCons true (sC (.int 1)) sNil))) sNil) (gmName 6) bx1)
noncomputable abbrev bx3 : SM := (sSeq (sSet 4 (sTake hLst sNil))
    (sSeq (sForN 2 (gmName 5) bx2)
    (sSetM 2 (sVar 4))))
theorem bx1_loop (most : Nat) (hmost : most ≤ 5) (e0 e2 e3 : Option T) (j : Nat) (m : List Int) (hm : m.length = j ∧ ∀ y ∈ m, (0 : Int) ≤ y) (hj : j ≤ 10) (f : List (List Int)) (hf : Bx (j + 1) f) (hl : f.length ≤ 500) (o6 : Option T) : ∃ (f' : List (List Int)) (o6' : Option T), Bx (j + 1) f' ∧ f'.length = f.length + (most + 1) ∧
    bx2 [e0, some (iT most), e2, e3, some (TL' f), some (.z (dT m)), o6] = some (.nx [e0, some (iT most), e2, e3, some (TL' f'), some (.z (dT m)), o6']) := by
  obtain ⟨e, h, f', o6', rfl, h1, h2⟩ := forF_inv (s := gmName 6) (g := bx1) (ds := rngD 0 (most + 1)) (env := [e0, some (iT most), e2, e3, some (TL' f), some (.z (dT m)), o6])
    (fun p e => ∃ (f' : List (List Int)) (o6' : Option T), e = [e0, some (iT most), e2, e3, some (TL' f'), some (.z (dT m)), o6'] ∧ Bx (j + 1) f' ∧ f'.length = f.length + p.length) ⟨f, o6, rfl, hf, rfl⟩ (fun p d q env hd ⟨f', o6', he, h1, h2⟩ => by
      subst he
      obtain ⟨rfl, hp⟩ := rngD_at hd
      refine ⟨_, [e0, some (iT most), e2, e3, some (TL' (f' ++ [m ++ [(p.length : Int)]])), some (.z (dT m)), some (iT p.length)], rfl, .inl ?_, f' ++ [m ++ [(p.length : Int)]], some (iT p.length), rfl, fun v hv => ?_, by simp [h2]; omega⟩
      · have z1 : 1 ≤ sizeLine := by have := sizeLine_val; omega
        have z2 : m.length + 1 ≤ sizeLine := by have := sizeLine_val; omega
        have z3 : f'.length < sizeLine := by have := sizeLine_val; omega
        simp [z1, z2, z3, dT]
      · rcases List.mem_append.mp hv with z | z
        · exact h1 v z
        · rw [List.mem_singleton.mp z]
          refine ⟨by simp [hm.1], fun y hy => ?_⟩
          rcases List.mem_append.mp hy with w | w
          · exact hm.2 y w
          · rw [List.mem_singleton.mp w]; omega)
  rw [rngD_length] at h2
  refine ⟨f', o6', h1, h2, (forR1_ev (n := most + 1) ?_ (by omega)).trans h⟩
  simp
theorem bx2_loop (most : Nat) (hmost : most ≤ 5) (e0 e2 e3 : Option T) (j : Nat) (hj : j ≤ 10) : ∀ (ms f : List (List Int)), Bx j ms → Bx (j + 1) f → f.length + ms.length * (most + 1) ≤ 500 → ∀ (o5 o6 : Option T), ∃ (f' : List (List Int)) (o5' o6' : Option T), Bx (j + 1) f' ∧ f'.length = f.length + ms.length * (most + 1) ∧
    forF (gmName 5) bx2 (ms.map dT) [e0, some (iT most), e2, e3, some (TL' f), o5, o6] = some (.nx [e0, some (iT most), e2, e3, some (TL' f'), o5', o6'])
  | [], f, _, hf, _, o5, o6 => ⟨f, o5, o6, hf, by simp, rfl⟩
  | m :: ms, f, hms, hf, hl, o5, o6 => by
    rw [List.length_cons, Nat.succ_mul] at hl
    obtain ⟨f1, o6', h1, h2, b⟩ := bx1_loop most hmost e0 e2 e3 j m (hms m List.mem_cons_self) hj f hf (by omega) o6
    obtain ⟨f', o5'', o6'', h3, h4, h⟩ := bx2_loop most hmost e0 e2 e3 j hj ms f1 (fun v hv => hms v (List.mem_cons_of_mem _ hv)) h1 (by rw [h2]; omega) (some (.z (dT m))) o6'
    refine ⟨f', o5'', o6'', h3, by rw [h4, h2, List.length_cons, Nat.succ_mul]; omega, ?_⟩
    rw [List.map_cons, forF]
    have e1 : gmName 5 (.z (dT m)) [e0, some (iT most), e2, e3, some (TL' f), o5, o6] = some [e0, some (iT most), e2, e3, some (TL' f), some (.z (dT m)), o6] := rfl
    rw [e1]
    simp only [b]
    exact h
theorem bx3_ev (most : Nat) (hmost : most ≤ 5) (e0 e3 : Option T) (j : Nat) (hj : j ≤ 10) (ms : List (List Int)) (hms : Bx j ms) (hl : ms.length * (most + 1) ≤ 500) (o4 o5 o6 : Option T) : ∃ (f' : List (List Int)) (o5' o6' : Option T), Bx (j + 1) f' ∧ f'.length = ms.length * (most + 1) ∧
    bx3 [e0, some (iT most), some (TL' ms), e3, o4, o5, o6] = some (.nx [e0, some (iT most), some (TL' f'), e3, none, o5', o6']) := by
  obtain ⟨f', o5', o6', h1, h2, h⟩ := bx2_loop most hmost e0 none e3 j hj ms [] hms (fun _ h => nomatch h) (by simpa using hl) o5 o6
  refine ⟨f', o5', o6', h1, by simpa using h2, ?_⟩
  refine seq_nx (e := [e0, some (iT most), some (TL' ms), e3, some (TL' []), o5, o6]) (by simp) ?_
  refine seq_nx (e := [e0, some (iT most), some (TL' ms), e3, some (TL' f'), o5', o6']) ?_ (by simp)
  rw [sForN_ap]
  have e2 : T.ers (ms.map fun v => T.z (dT v)) = ms.map dT := ers_mapf dT ms
  have e3' : zs (ms.map fun v => T.z (dT v)) = some (ms.map dT) := zs_mapz dT ms
  simp [e2, e3', h]
section
variable (cn : Str → Addr)
theorem hBox (n most : Nat) (hn : n ≤ 3) (hmost : most ≤ 5) : ∃ bs : List (List Int), Bx n bs ∧ F_zlaw_box cn [iT n, iT most] = some (.rt (TL' bs) []) := by
  have go : ∀ (c j : Nat), c + j = n → ∀ (ms : List (List Int)), Bx j ms → ms.length = (most + 1) ^ j → ∀ (o3 o4 o5 o6 : Option T), ∃ (bs : List (List Int)) (o3' o4' o5' o6' : Option T), Bx n bs ∧
      forF (gmName 3) bx3 (rngD j c) [some (iT n), some (iT most), some (TL' ms), o3, o4, o5, o6] = some (.nx [some (iT n), some (iT most), some (TL' bs), o3', o4', o5', o6']) := by
    intro c
    induction c with
    | zero =>
      intro j hj ms hms _ o3 o4 o5 o6
      have : j = n := by omega
      subst this
      exact ⟨ms, o3, o4, o5, o6, hms, rfl⟩
    | succ c ih =>
      intro j hj ms hms hl o3 o4 o5 o6
      have hp : (most + 1) ^ j * (most + 1) ≤ 500 := by
        have h1 : (most + 1) ^ j * (most + 1) = (most + 1) ^ (j + 1) := (Nat.pow_succ (most + 1) j).symm
        have h2 : (most + 1) ^ (j + 1) ≤ 6 ^ (j + 1) := Nat.pow_le_pow_left (by omega) _
        have h3 : 6 ^ (j + 1) ≤ 6 ^ 3 := Nat.pow_le_pow_right (by omega) (by omega)
        omega
      obtain ⟨f', o5', o6', h1, h2, b⟩ := bx3_ev most hmost (some (iT n)) (some (iT j)) j (by omega) ms hms (by rw [hl]; exact hp) o4 o5 o6
      obtain ⟨bs, p3, p4, p5, p6, g1, g⟩ := ih (j + 1) (by omega) f' h1 (by rw [h2, hl, Nat.pow_succ]) (some (iT j)) none o5' o6'
      refine ⟨bs, p3, p4, p5, p6, g1, ?_⟩
      have e0 : rngD (j : Int) (c + 1) = .int (j : Int) :: rngD ((j + 1 : Nat) : Int) c := by rw [rngD]; simp
      have e1 : gmName 3 (.z (.int (j : Int))) [some (iT n), some (iT most), some (TL' ms), o3, o4, o5, o6] = some [some (iT n), some (iT most), some (TL' ms), some (iT j), o4, o5, o6] := rfl
      rw [e0, forF, e1]
      simp only [b]
      exact g
  obtain ⟨bs, o3, o4, o5, o6, h1, h⟩ := go n 0 (by omega) [[]] (fun v hv => by rw [List.mem_singleton.mp hv]; exact ⟨rfl, fun _ h => nomatch h⟩) (by simp) none none none none
  refine ⟨bs, h1, fn_rt (e := [some (iT n), some (iT most), none, o3, o4, o5, o6]) rfl ?_⟩
  unfold g_zlaw_box
  have s1 : 1 ≤ sizeLine := by have := sizeLine_val; omega
  refine seq_nx (e := [some (iT n), some (iT most), some (TL' [[]]), none, none, none, none]) (by simp [s1, zs, dT]) ?_
  refine seq_nx (e := [some (iT n), some (iT most), some (TL' bs), o3, o4, o5, o6]) ((forR1_ev (n := n) (by simp) (by omega)).trans h) (by simp)
end
end DL.k05

/-! k05: the first half -/
namespace DL.k05
open PySem PySem.Spec PyProof.Rows L2 DL
theorem cut_to {α : Type} (xs : List α) (p : Nat) (h : p ≤ xs.length) : cutD xs none (some (p : Int)) = xs.take p := by
  unfold cutD
  have h1 : HT.sIx xs.length 0 none = 0 := rfl
  have h2 : HT.sIx xs.length xs.length (some (p : Int)) = p := by
    simp only [HT.sIx]
    split <;> omega
  rw [h1, h2, List.drop_zero, Nat.sub_zero]
theorem cut_from {α : Type} (xs : List α) (p : Nat) (h : p ≤ xs.length) : cutD xs (some (p : Int)) none = xs.drop p := by
  unfold cutD
  have h1 : HT.sIx xs.length 0 (some (p : Int)) = p := by
    simp only [HT.sIx]
    split <;> omega
  have h2 : HT.sIx xs.length xs.length none = xs.length := rfl
  rw [h1, h2]
  exact List.take_of_length_le (by simp)
theorem compFilt {i : Nat} {fc : EM Bool} {fe : EM Opd} {env : En} (q : List Int → Bool) (hi : i < env.length) (hw : ∀ m : List Int, wipeE (env.set i (some (.z (dT m)))) [i] = env) (hfe : ∀ m : List Int, fe (env.set i (some (.z (dT m)))) = some (.ok (.t (.z (dT m))) (env.set i (some (.z (dT m)))))) : ∀ (ms : List (List Int)) (acc : List T), acc.length + ms.length < 10000 → (∀ m ∈ ms, fc (env.set i (some (.z (dT m)))) = some (.ok (q m) (env.set i (some (.z (dT m)))))) →
    compF [i] (gmName i) fc fe (ms.map dT) env acc = some (acc ++ (ms.filter q).map (fun v => .z (dT v)), env)
  | [], acc, _, _ => by simp [compF]
  | m :: ms, acc, hs, hc => by
    have hlen : acc.length < sizeLine := by
      have := sizeLine_val
      simp at hs
      omega
    have hg : gmName i (.z (dT m)) env = some (env.set i (some (.z (dT m)))) := by rw [gmName_ap, if_pos hi]
    rw [List.map_cons]
    unfold compF
    simp only [hg, hc m List.mem_cons_self]
    cases hq : q m
    · have := compFilt q hi hw hfe ms acc (by simp at hs; omega) fun z hz => hc z (List.mem_cons_of_mem _ hz)
      simp only [List.filter_cons, hq, hw m]
      exact this
    · have := compFilt q hi hw hfe ms (acc ++ [.z (dT m)]) (by simp at hs ⊢; omega) fun z hz => hc z (List.mem_cons_of_mem _ hz)
      simp only [List.filter_cons, hq, hfe m, Opd.take, if_pos hlen, hw m]
      refine Eq.trans this ?_
      simp
section
variable (cn : Str → Addr)
noncomputable abbrev fA : SM := (sIfS (sTb (sO (oS gEq) (sCons true (sCallL 2 (F_zlaw_admitted cn) (sCons true (sVar 4) (sCons true (sVar 5) sNil))) (sCons true (sCallL 2 (F_zlaw_inside cn) (sCons true (sVar 3) (sCons true (sVar 5) sNil))) sNil))))
      (sRet (sC (.bl false)))
      sNext)
theorem fA_loop (n : Nat) (hn : n < 1000) (e0 e1 e2 : Option T) (ms f : List (List Int)) (hms : ∀ m ∈ ms, m.length = n) (hf : ∀ l ∈ f, l.length = n) (h : ∀ x : List Int, x.length = n → (∀ y ∈ x, 0 ≤ y) → admS f x = !ins ms x) (bs : List (List Int)) (hb : Bx n bs) (r : En) (o5 : Option T) : ∃ o5',
    forF (gmName 5) (fA cn) (bs.map dT) (e0 :: e1 :: e2 :: some (TL' ms) :: some (TL' f) :: o5 :: r) = some (.nx (e0 :: e1 :: e2 :: some (TL' ms) :: some (TL' f) :: o5' :: r)) := by
  obtain ⟨e, g, o5', rfl⟩ := forF_all (s := gmName 5) (g := fA cn) (ds := bs.map dT) (env := (e0 :: e1 :: e2 :: some (TL' ms) :: some (TL' f) :: o5 :: r))
    (fun e => ∃ o5', e = (e0 :: e1 :: e2 :: some (TL' ms) :: some (TL' f) :: o5' :: r)) ⟨o5, rfl⟩ (fun d hd e i => by
      obtain ⟨o5', rfl⟩ := i
      obtain ⟨x, hx, rfl⟩ := List.mem_map.mp hd
      obtain ⟨hxl, hx0⟩ := hb x hx
      have k1 : F_zlaw_admitted cn [.z (LT f), .z (dT x)] = some (.rt (bT (admS f x)) []) := by rw [x12]; exact inL_ev f x (by omega) hf hxl
      have k2 : F_zlaw_inside cn [.z (LT ms), .z (dT x)] = some (.rt (bT (ins ms x)) []) := by rw [x21]; exact ins_ev ms x (fun m hm => by rw [hxl, hms m hm]) (by omega)
      rw [h x hxl hx0] at k1
      have e1' : T.ers (f.map (T.z ∘ dT)) = f.map dT := ers_mapf dT f
      have e2' : T.ers (ms.map (T.z ∘ dT)) = ms.map dT := ers_mapf dT ms
      refine ⟨(e0 :: e1 :: e2 :: some (TL' ms) :: some (TL' f) :: some (.z (dT x)) :: r), (e0 :: e1 :: e2 :: some (TL' ms) :: some (TL' f) :: some (.z (dT x)) :: r), by rw [gmName_ap]; simp, .inl ?_, _, rfl⟩
      refine ifS_f (e := (e0 :: e1 :: e2 :: some (TL' ms) :: some (TL' f) :: some (.z (dT x)) :: r)) ?_ rfl
      generalize ins ms x = b at k1 k2
      have hne : deq (.bl (!b)) (.bl b) = false := by cases b <;> rfl
      simp [e1', e2', k1, k2, hne])
  exact ⟨o5', g⟩
noncomputable abbrev fM : SM := (sIfS (sTr (sCallL 2 (F_zlaw_admits cn) (sCons true (sVar 6) (sCons true (sVar 7) sNil))))
        (sRet (sC (.bl false)))
        sNext)
noncomputable abbrev fP : SM := (sIfS (sTb (sO oGe (sCons true (sO oIx (sCons true (sVar 6) (sCons true (sVar 8) sNil))) (sCons true (sC (.int 0)) sNil))))
        (sSeq (sSet 9 (sO oAdd (sCons true (sO oAdd (sCons false (sSl (sVar 6) moN (moS (sVar 8))) (sCons true (sTake hTup (sCons true (sO oAdd (sCons true (sO oIx (sCons true (sVar 6) (sCons true (sVar 8) sNil))) (sCons true (sC (.int 1)) sNil))) sNil)) sNil))) (sCons true (sSl (sVar 6) (moS (sO oAdd (sCons true (sVar 8) (sCons true (sC (.int 1)) sNil)))) moN) sNil))))
        (sIfS (sTb (sO (oS gEq) (sCons true (sO (oS gLen) (sCons true (sLcN [7] 3 (gmName 7) (sTr (sCallL 2 (F_zlaw_admits cn) (sCons true (sVar 9) (sCons true (sVar 7) sNil)))) (sVar 7)) sNil)) (sCons true (sC (.int 0)) sNil))))
          (sRet (sC (.bl false)))
          sNext))
        sNext)
theorem fM_loop (n : Nat) (hn : n < 1000) (e0 e1 e2 e3 e4 e5 e8 e9 : Option T) (l : List Int) (hl : l.length = n) (ms : List (List Int)) (hms : ∀ m ∈ ms, m.length = n) (h : ∀ m ∈ ms, admL l m = false) (o7 : Option T) : ∃ o7',
    forF (gmName 7) (fM cn) (ms.map dT) [e0, e1, e2, e3, e4, e5, some (.z (dT l)), o7, e8, e9] = some (.nx [e0, e1, e2, e3, e4, e5, some (.z (dT l)), o7', e8, e9]) := by
  obtain ⟨e, g, o7', rfl⟩ := forF_all (s := gmName 7) (g := fM cn) (ds := ms.map dT) (env := [e0, e1, e2, e3, e4, e5, some (.z (dT l)), o7, e8, e9])
    (fun e => ∃ o7', e = [e0, e1, e2, e3, e4, e5, some (.z (dT l)), o7', e8, e9]) ⟨o7, rfl⟩ (fun d hd e i => by
      obtain ⟨o7', rfl⟩ := i
      obtain ⟨m, hm, rfl⟩ := List.mem_map.mp hd
      have k1 : F_zlaw_admits cn [.z (dT l), .z (dT m)] = some (.rt (bT (admL l m)) []) := by rw [x16]; exact admL_ev l m hl (hms m hm) (by omega)
      rw [h m hm] at k1
      refine ⟨_, [e0, e1, e2, e3, e4, e5, some (.z (dT l)), some (.z (dT m)), e8, e9], rfl, .inl ?_, _, rfl⟩
      exact ifS_f (e := [e0, e1, e2, e3, e4, e5, some (.z (dT l)), some (.z (dT m)), e8, e9]) (by simp [k1]) rfl)
  exact ⟨o7', g⟩
theorem fP_ev (n : Nat) (hn : n < 1000) (e0 e1 e2 e4 e5 o7 o9 : Option T) (ms : List (List Int)) (hms : ∀ m ∈ ms, m.length = n) (hml : ms.length < 1000) (l : List Int) (hl : l.length = n) (p : Nat) (hp : p < n) (h : 0 ≤ l.getD p 0 → (ms.filter fun m => admL (l.set p (l.getD p 0 + 1)) m) ≠ []) : ∃ o7' o9',
    fP cn [e0, e1, e2, some (TL' ms), e4, e5, some (.z (dT l)), o7, some (iT p), o9] = some (.nx [e0, e1, e2, some (TL' ms), e4, e5, some (.z (dT l)), o7', some (iT p), o9']) := by
  have a1 : atI (l.map D.int) (p : Int) = some (.int (l.getD p 0)) := atIi' (by omega)
  have hdT : dT l = .tup (l.map .int) := rfl
  by_cases h0 : 0 ≤ l.getD p 0
  · have hne := h h0
    have c1 : cutD (l.map D.int) none (some (p : Int)) = (l.take p).map D.int := by rw [cut_to _ _ (by simp; omega), List.map_take]
    have c2 : cutD (l.map D.int) (some ((p : Int) + 1)) none = (l.drop (p + 1)).map D.int := by
      have := cut_from (l.map D.int) (p + 1) (by simp; omega)
      push_cast at this
      rw [this, List.map_drop]
    have hset : l.set p (l.getD p 0 + 1) = l.take p ++ (l.getD p 0 + 1) :: l.drop (p + 1) := List.set_eq_take_append_cons_drop.trans (if_pos (by omega))
    have l1 : (l.take p).length ≤ 1000 := by rw [List.length_take]; omega
    have l2 : (l.drop (p + 1)).length ≤ 1000 := by rw [List.length_drop]; omega
    have hsl : (l.set p (l.getD p 0 + 1)).length = n := by rw [List.length_set, hl]
    have hcf := compFilt (i := 7) (fc := (sTr (sCallL 2 (F_zlaw_admits cn) (sCons true (sVar 9) (sCons true (sVar 7) sNil))))) (fe := sVar 7) (env := [e0, e1, e2, none, e4, e5, some (.z (dT l)), none, some (iT p), some (.z (dT (l.set p (l.getD p 0 + 1))))]) (fun m => admL (l.set p (l.getD p 0 + 1)) m) (by simp) (fun m => rfl) (fun m => rfl) ms [] (by simp; omega) (fun m hm => by
      have k1 : F_zlaw_admits cn [.z (dT (l.set p (l.getD p 0 + 1))), .z (dT m)] = some (.rt (bT (admL (l.set p (l.getD p 0 + 1)) m)) []) := by rw [x16]; exact admL_ev _ m hsl (hms m hm) (by omega)
      generalize l.set p (l.getD p 0 + 1) = S at k1 ⊢
      simp [k1])
    rw [List.nil_append] at hcf
    refine ⟨none, some (.z (dT (l.set p (l.getD p 0 + 1)))), ?_⟩
    generalize (ms.filter fun m => admL (l.set p (l.getD p 0 + 1)) m) = R at hcf hne
    generalize hS : l.set p (l.getD p 0 + 1) = S at hcf hset ⊢
    generalize l.getD p 0 = v at a1 h0 hset
    rw [hdT] at hcf ⊢
    refine ifS_t (e := [e0, e1, e2, some (TL' ms), e4, e5, some (.z (.tup (l.map .int))), o7, some (iT p), o9]) ?_ ?_
    · generalize l.map D.int = DD at a1
      simp [a1, h0]
    refine seq_nx (e := [e0, e1, e2, some (TL' ms), e4, e5, some (.z (.tup (l.map .int))), o7, some (iT p), some (.z (dT S))]) ?_ ?_
    · rw [hset]
      generalize l.take p = A at c1 l1 ⊢
      generalize l.drop (p + 1) = B at c2 l2 ⊢
      have z1 : 1 ≤ sizeLine := by have := sizeLine_val; omega
      have z2 : A.length + 1 ≤ sizeLine := by have := sizeLine_val; omega
      have z3 : A.length + 1 + B.length ≤ sizeLine := by have := sizeLine_val; omega
      have z4 : A.length + (B.length + 1) ≤ sizeLine := by omega
      generalize l.map D.int = DD at a1 c1 c2 ⊢
      simp [sSl, moN, moS, a1, c1, c2, z1, z2, z3, z4, dT]
    · have e2' : T.ers (ms.map (T.z ∘ dT)) = ms.map dT := ers_mapf dT ms
      have e3' : zs (ms.map (T.z ∘ dT)) = some (ms.map dT) := zs_mapz dT ms
      have hw : wipeE [e0, e1, e2, none, e4, e5, some (.z (.tup (l.map .int))), o7, some (iT p), some (.z (dT S))] [7] = [e0, e1, e2, none, e4, e5, some (.z (.tup (l.map .int))), none, some (iT p), some (.z (dT S))] := rfl
      generalize l.map D.int = DD at hcf hw ⊢
      have hRl : ¬ (R.length = 0) := fun e => hne (List.eq_nil_of_length_eq_zero e)
      have hR : (T.ers (R.map (T.z ∘ dT))).length = R.length := by
        have : T.ers (R.map (T.z ∘ dT)) = R.map dT := ers_mapf dT R
        rw [this, List.length_map]
      have hRi : ¬ ((R.length : Int) = 0) := by omega
      refine ifS_f (e := [e0, e1, e2, some (TL' ms), e4, e5, some (.z (.tup DD)), none, some (iT p), some (.z (dT S))]) ?_ rfl
      simp [e2', e3', hw, hcf, hR, hRl, hRi, hne]
  · refine ⟨o7, o9, ?_⟩
    rw [hdT]
    generalize l.getD p 0 = v at a1 h0
    generalize l.map D.int = DD at a1 ⊢
    exact ifS_f (e := [e0, e1, e2, some (TL' ms), e4, e5, some (.z (.tup DD)), o7, some (iT p), o9]) (by simp [a1]; omega) rfl
end
end DL.k05

/-! k05: the first half as a whole -/
namespace DL.k05
open PySem PySem.Spec PyProof.Rows L2 DL
section
variable (cn : Str → Addr)
noncomputable abbrev fL : SM := (sSeq (sForN 3 (gmName 7) (fM cn))
    (sForR gRng1 (sCons true (sVar 2) sNil) (gmName 8) (fP cn)))
theorem fL_ev (n : Nat) (hn : n < 1000) (e0 e1 e4 e5 : Option T) (ms : List (List Int)) (hms : ∀ m ∈ ms, m.length = n) (hml : ms.length < 1000) (l : List Int) (hl : l.length = n) (h1 : ∀ m ∈ ms, admL l m = false) (h2 : ∀ p, p < n → 0 ≤ l.getD p 0 → (ms.filter fun m => admL (l.set p (l.getD p 0 + 1)) m) ≠ []) (o7 o8 o9 : Option T) : ∃ o7' o8' o9',
    fL cn [e0, e1, some (iT n), some (TL' ms), e4, e5, some (.z (dT l)), o7, o8, o9] = some (.nx [e0, e1, some (iT n), some (TL' ms), e4, e5, some (.z (dT l)), o7', o8', o9']) := by
  obtain ⟨o7', g1⟩ := fM_loop cn n hn e0 e1 (some (iT n)) none e4 e5 o8 o9 l hl ms hms h1 o7
  obtain ⟨e, g2, p7, p8, p9, rfl⟩ := forF_inv (s := gmName 8) (g := fP cn) (ds := rngD 0 n) (env := [e0, e1, some (iT n), some (TL' ms), e4, e5, some (.z (dT l)), o7', o8, o9])
    (fun _ e => ∃ p7 p8 p9, e = [e0, e1, some (iT n), some (TL' ms), e4, e5, some (.z (dT l)), p7, p8, p9]) ⟨_, _, _, rfl⟩ (fun p d q env hd ⟨p7, p8, p9, he⟩ => by
      subst he
      obtain ⟨rfl, hp⟩ := rngD_at hd
      obtain ⟨o7'', o9'', b⟩ := fP_ev cn n hn e0 e1 (some (iT n)) e4 e5 p7 p9 ms hms hml l hl p.length hp (h2 _ hp)
      exact ⟨_, _, rfl, .inl b, _, _, _, rfl⟩)
  refine ⟨p7, p8, p9, seq_nx (e := [e0, e1, some (iT n), some (TL' ms), e4, e5, some (.z (dT l)), o7', o8, o9]) ?_ ((forR1_ev (n := n) (by simp) (by omega)).trans g2)⟩
  rw [sForN_ap]
  have e2 : T.ers (ms.map (T.z ∘ dT)) = ms.map dT := ers_mapf dT ms
  have e3 : zs (ms.map (T.z ∘ dT)) = some (ms.map dT) := zs_mapz dT ms
  simp [e2, e3, g1]
theorem hFirst (ns : List Int) : F_zlaw_first_half cn [.z (.kls (ns.map .int))] = some (.rt (bT true) []) := by
  obtain ⟨xs0, h0, _, _⟩ := hDraws ns 60 (by decide)
  rw [show ((60 : Nat) : Int) = 60 from rfl, ← x1 cn] at h0
  have c0 : T.cleans (xs0.map iT) = true := cleans_map D.int (fun _ => rfl) xs0
  generalize hz : (D.kls (ns.map .int)) = z at h0 ⊢
  have eT : ∀ (xs : List Int) (k : Int), 0 < k → ∃ (v : Nat) (xs' : List Int), F_zlaw_take cn [.lst (xs.map iT), iT k] = some (.rt (iT v) [.lst (xs'.map iT)]) ∧ (v : Int) < k := fun xs k hk => by
    have hb := dtake_bd xs hk
    refine ⟨(dtake xs k).1.toNat, (dtake xs k).2, ?_, by omega⟩
    rw [x2, show (((dtake xs k).1.toNat : Nat) : Int) = (dtake xs k).1 by omega]
    exact hTake xs k hk
  obtain ⟨a, xs1, h1, ha⟩ := eT xs0 3 (by decide)
  obtain ⟨c, xs2, h2, hc⟩ := eT xs1 5 (by decide)
  obtain ⟨vs, xs3, h3, hvl, hvs⟩ := marks_ev (1 + a) c 3 (by omega) (by omega) (by omega) xs2
  have h3' : F_zlaw_markings cn [.lst (xs2.map iT), iT ((1 + a : Nat) : Int), iT c, iT 3] = some (.rt (TL' vs) [.lst (xs3.map iT)]) := h3
  obtain ⟨w, xs4, h4, hw⟩ := eT xs3 12 (by decide)
  have hn : 1 + a ≤ 3 := by omega
  have hn0 : 0 < 1 + a := by omega
  have hvg : ∀ m ∈ vs, ∀ k, k < 1 + a → 0 ≤ m.getD k 0 ∧ m.getD k 0 < 100 := fun m hm k hk => by
    have := (hvs m hm).2 _ (getD_mem (k := k) (by rw [(hvs m hm).1]; exact hk))
    omega
  generalize hN : 1 + a = n at h3' hn hn0 hvs hvg
  have hcast : ((n : Nat) : Int) = 1 + (a : Int) := by omega
  -- the members
  have hmem : ∃ ms : List (List Int), okL n 0 ms ∧ (∀ m ∈ ms, m.length = n) ∧ ms.length ≤ 5 ∧ (∀ m ∈ ms, ∀ k, k < n → 0 ≤ m.getD k 0 ∧ m.getD k 0 < 100) ∧
      (sIfS (sTb (sO (oS gEq) (sCons true (sCallT 2 [true] (F_zlaw_take cn) (sCons true (sVar 1) (sCons true (sC (.int 12)) sNil))) (sCons true (sC (.int 0)) sNil))))
        (sApp 3 (sO oMulT (sCons true (sO oTup (sCons true (sC (.int 0)) sNil)) (sCons true (sVar 2) sNil))))
        sNext) [some (.z z), some (.lst (xs3.map iT)), some (iT n), some (TL' vs), none, none, none, none, none, none] = some (.nx [some (.z z), some (.lst (xs4.map iT)), some (iT n), some (TL' ms), none, none, none, none, none, none]) := by
    by_cases hw0 : w = 0
    · refine ⟨vs ++ [List.replicate n 0], okL_app ?_ (okL_few (by omega)), fun m hm => ?_, by simp; omega, fun m hm k hk => ?_, ?_⟩
      · unfold belowL
        have : ((List.range n).filter fun p => decide (0 < (List.replicate n (0 : Int)).getD p 0)) = [] := List.filter_eq_nil_iff.mpr fun p hp => by
          rw [rep_get (List.mem_range.mp hp)]; simp
        rw [this]; rfl
      · rcases List.mem_append.mp hm with y | y
        · exact (hvs m y).1
        · rw [List.mem_singleton.mp y]; simp
      · rcases List.mem_append.mp hm with y | y
        · exact hvg m y k hk
        · rw [List.mem_singleton.mp y, rep_get hk]; omega
      · have s1 : 1 ≤ sizeLine := by have := sizeLine_val; omega
        have s2 : vs.length < sizeLine := by have := sizeLine_val; omega
        have hf : (List.replicate n [D.int 0]).flatten = List.replicate n (D.int 0) := by
          clear hN hcast hvg hvs hn hn0 h3'
          induction n with
          | zero => rfl
          | succ n ih => rw [List.replicate_succ, List.flatten_cons, List.replicate_succ, ih]; rfl
        have a1 : (1 : Int) ≤ n := by omega
        have a2 : (n : Int) ≤ 1000 := by omega
        have a3 : n ≤ 1000 := by omega
        have a5 : 1 ≤ n := by omega
        have hr := rep_tup n 0
        have e1 : TL' (vs ++ [List.replicate n 0]) = .lst ((vs.map fun v => T.z (dT v)) ++ [.z (.tup (List.replicate n (.int 0)))]) := by rw [hr]; simp
        rw [e1]
        refine ifS_t (e := [some (.z z), some (.lst (xs4.map iT)), some (iT n), some (TL' vs), none, none, none, none, none, none]) (by simp [h4, hw0]) ?_
        simp [s1, s2, hf, a1, a2, a3, a5, hn0]
    · refine ⟨vs, okL_few (by omega), fun m hm => (hvs m hm).1, by omega, hvg, ?_⟩
      exact ifS_f (e := [some (.z z), some (.lst (xs4.map iT)), some (iT n), some (TL' vs), none, none, none, none, none, none]) (by simp [h4, hw0]) rfl
  obtain ⟨ms, hok, hms, hml, hmg, h5⟩ := hmem
  have h6 := hCC cn n hn hn0 ms hok hms
  obtain ⟨V, hcc, hVl, hVb, hVv⟩ := cc_go n ms [List.replicate n (-1)] _ (CC.start n) (fun k _ => by simp) (fun k _ v hv => by have := List.mem_singleton.mp hv; omega) (fun m hm k hk => (hmg m hm k hk).2)
  change CC n V (ccL n ms) at hcc
  have hsz := hcc.size hn0 hn
  rw [hVl, hVl] at hsz
  have hsz2 : (ccL n ms).length < 64 := by
    have : ([(-1 : Int)].length + ms.length) * ([(-1 : Int)].length + ms.length + 1) ≤ 6 * 7 := Nat.mul_le_mul (by simp; omega) (by simp; omega)
    omega
  have h7 : F_zlaw_all_numbers cn [.z (LT (ccL n ms)), iT n, iT (-1)] = some (.rt (bT true) []) := by
    rw [x10]; exact all_ev (ccL n ms) n (-1) (fun l hl => hcc.lim l hl)
  have h8 : F_zlaw_greatest cn [.z (LT (ccL n ms))] = some (.rt (TL' (ccL n ms)) []) := by
    rw [x9]
    have := great_ev (ccL n ms) n (by omega) hn0 (fun l hl => (hcc.lim l hl).1) hsz2
    rw [hcc.top] at this
    exact this
  have hadm : ∀ x : List Int, x.length = n → (∀ y ∈ x, 0 ≤ y) → admS (ccL n ms) x = !ins ms x := fun x hx hx0 => adm_cc hx (fun k hk => hx0 _ (getD_mem (by omega))) ms hms
  obtain ⟨bs, hbs, h9⟩ := hBox cn n 4 hn (by decide)
  rw [show ((4 : Nat) : Int) = 4 from rfl] at h9
  have hlst : ∀ l ∈ ccL n ms, (∀ m ∈ ms, admL l m = false) ∧ ∀ p, p < n → 0 ≤ l.getD p 0 → (ms.filter fun m => admL (l.set p (l.getD p 0 + 1)) m) ≠ [] := fun l hl => by
    refine ⟨fun m hm => ?_, fun p hp h0 => cc_least hms hcc hVv hl hp h0⟩
    cases hh : admL l m with
    | false => rfl
    | true =>
      have q1 : admS (ccL n ms) m = true := by
        simp only [admS, List.any_eq_true]
        exact ⟨l, hl, hh⟩
      have q2 := adm_cc (hms m hm) (fun k hk => (hmg m hm k hk).1) ms hms
      rw [q1] at q2
      have q3 : ins ms m = true := ins_iff.mpr ⟨m, hm, cov_refl m⟩
      rw [q3] at q2
      cases q2
  obtain ⟨o5, g5⟩ := fA_loop cn n (by omega) (some (.z z)) (some (.lst (xs4.map iT))) (some (iT n)) ms (ccL n ms) hms (fun l hl => (hcc.lim l hl).1) hadm bs hbs [none, none, none, none] none
  have hcl := cl_dT (ccL n ms)
  have hbcl := cl_dT bs
  have hlim := fun l hl => (hcc.lim l hl).1
  generalize ccL n ms = f at *
  obtain ⟨e, g6, p6, p7, p8, p9, rfl⟩ := forF_all (s := gmName 6) (g := fL cn) (ds := f.map dT) (env := [some (.z z), some (.lst (xs4.map iT)), some (iT n), some (TL' ms), none, o5, none, none, none, none])
    (fun e => ∃ p6 p7 p8 p9, e = [some (.z z), some (.lst (xs4.map iT)), some (iT n), some (TL' ms), none, o5, p6, p7, p8, p9]) ⟨_, _, _, _, rfl⟩ (fun d hd e i => by
      obtain ⟨p6, p7, p8, p9, rfl⟩ := i
      obtain ⟨l, hl, rfl⟩ := List.mem_map.mp hd
      obtain ⟨q7, q8, q9, b⟩ := fL_ev cn n (by omega) (some (.z z)) (some (.lst (xs4.map iT))) none o5 ms hms (by omega) l (hlim l hl) (hlst l hl).1 (hlst l hl).2 p7 p8 p9
      exact ⟨_, _, rfl, .inl b, _, _, _, _, rfl⟩)
  refine fn_rt (e := [some (.z z), some (.lst (xs4.map iT)), some (iT n), some (TL' ms), some (TL' f), o5, p6, p7, p8, p9]) rfl ?_
  unfold g_zlaw_first_half
  have em1 : T.ers (ms.map (T.z ∘ dT)) = ms.map dT := ers_mapf dT ms
  have em2 : zs (ms.map (T.z ∘ dT)) = some (ms.map dT) := zs_mapz dT ms
  have ef1 : T.ers (f.map (T.z ∘ dT)) = f.map dT := ers_mapf dT f
  have ef2 : zs (f.map (T.z ∘ dT)) = some (f.map dT) := zs_mapz dT f
  have eb2 : zs (bs.map (T.z ∘ dT)) = some (bs.map dT) := zs_mapz dT bs
  refine seq_nx (e := [some (.z z), some (.lst (xs0.map iT)), none, none, none, none, none, none, none, none]) (by simp [h0, T.clean, c0]) ?_
  refine seq_nx (e := [some (.z z), some (.lst (xs1.map iT)), some (iT n), none, none, none, none, none, none, none]) (by rw [hcast]; simp [h1]) ?_
  refine seq_nx (e := [some (.z z), some (.lst (xs3.map iT)), some (iT n), some (TL' vs), none, none, none, none, none, none]) (by
    have hTLv : (TL' vs) = TL' vs := rfl
    generalize (n : Int) = N at h3' ⊢
    simp [h2, h3']) ?_
  refine seq_nx h5 ?_
  refine seq_nx (e := [some (.z z), some (.lst (xs4.map iT)), some (iT n), some (TL' ms), some (TL' f), none, none, none, none, none]) (by simp [em1, em2, h6, hcl]) ?_
  refine seq_nx (e := [some (.z z), some (.lst (xs4.map iT)), some (iT n), some (TL' ms), some (TL' f), none, none, none, none, none]) (ifS_f (e := [some (.z z), some (.lst (xs4.map iT)), some (iT n), some (TL' ms), some (TL' f), none, none, none, none, none]) (by simp [ef1, h7, h8, hcl]) rfl) ?_
  refine seq_nx (e := [some (.z z), some (.lst (xs4.map iT)), some (iT n), some (TL' ms), some (TL' f), o5, none, none, none, none]) ?_ ?_
  · have hb9 : (sCallL 2 (F_zlaw_box cn) (sCons true (sVar 2) (sCons true (sC (.int 4)) sNil))) [some (.z z), some (.lst (xs4.map iT)), some (iT n), some (TL' ms), some (TL' f), none, none, none, none, none] = some (.ok (.t (TL' bs)) [some (.z z), some (.lst (xs4.map iT)), some (iT n), some (TL' ms), some (TL' f), none, none, none, none, none]) := by simp [h9, hbcl]
    have hels : (TL' bs).els = some (bs.map dT) := by simp [eb2]
    rw [sFor_ap, hb9]
    simp only [hels]
    exact g5
  refine seq_nx (e := [some (.z z), some (.lst (xs4.map iT)), some (iT n), some (TL' ms), some (TL' f), o5, p6, p7, p8, p9]) ?_ (by simp)
  rw [sForN_ap]
  simp [ef1, ef2, g6]
end
end DL.k05

/-! k05: the second half; the law -/
namespace DL.k05
open PySem PySem.Spec PyProof.Rows L2 DL
section
variable (cn : Str → Addr)
noncomputable abbrev sA : SM := (sIfS (sTb (sO (oS gEq) (sCons true (sCallL 2 (F_zlaw_inside cn) (sCons true (sVar 4) (sCons true (sVar 5) sNil))) (sCons true (sCallL 2 (F_zlaw_admitted cn) (sCons true (sVar 3) (sCons true (sVar 5) sNil))) sNil))))
      (sRet (sC (.bl false)))
      sNext)
theorem sA_loop (n : Nat) (hn : n < 1000) (e0 e1 e2 : Option T) (ls f : List (List Int)) (hls : ∀ m ∈ ls, m.length = n) (hf : ∀ l ∈ f, l.length = n) (h : ∀ x : List Int, x.length = n → (∀ y ∈ x, 0 ≤ y) → ins f x = !admS ls x) (bs : List (List Int)) (hb : Bx n bs) (r : En) (o5 : Option T) : ∃ o5',
    forF (gmName 5) (sA cn) (bs.map dT) (e0 :: e1 :: e2 :: some (TL' ls) :: some (TL' f) :: o5 :: r) = some (.nx (e0 :: e1 :: e2 :: some (TL' ls) :: some (TL' f) :: o5' :: r)) := by
  obtain ⟨e, g, o5', rfl⟩ := forF_all (s := gmName 5) (g := sA cn) (ds := bs.map dT) (env := (e0 :: e1 :: e2 :: some (TL' ls) :: some (TL' f) :: o5 :: r))
    (fun e => ∃ o5', e = (e0 :: e1 :: e2 :: some (TL' ls) :: some (TL' f) :: o5' :: r)) ⟨o5, rfl⟩ (fun d hd e i => by
      obtain ⟨o5', rfl⟩ := i
      obtain ⟨x, hx, rfl⟩ := List.mem_map.mp hd
      obtain ⟨hxl, hx0⟩ := hb x hx
      have k1 : F_zlaw_admitted cn [.z (LT ls), .z (dT x)] = some (.rt (bT (admS ls x)) []) := by rw [x12]; exact inL_ev ls x (by omega) hls hxl
      have k2 : F_zlaw_inside cn [.z (LT f), .z (dT x)] = some (.rt (bT (ins f x)) []) := by rw [x21]; exact ins_ev f x (fun m hm => by rw [hxl, hf m hm]) (by omega)
      rw [h x hxl hx0] at k2
      have e1' : T.ers (f.map (T.z ∘ dT)) = f.map dT := ers_mapf dT f
      have e2' : T.ers (ls.map (T.z ∘ dT)) = ls.map dT := ers_mapf dT ls
      refine ⟨(e0 :: e1 :: e2 :: some (TL' ls) :: some (TL' f) :: some (.z (dT x)) :: r), (e0 :: e1 :: e2 :: some (TL' ls) :: some (TL' f) :: some (.z (dT x)) :: r), by rw [gmName_ap]; simp, .inl ?_, _, rfl⟩
      refine ifS_f (e := (e0 :: e1 :: e2 :: some (TL' ls) :: some (TL' f) :: some (.z (dT x)) :: r)) ?_ rfl
      generalize admS ls x = b at k1 k2
      have hne : deq (.bl (!b)) (.bl b) = false := by cases b <;> rfl
      simp [e1', e2', k1, k2, hne])
  exact ⟨o5', g⟩
noncomputable abbrev sQ : SM := (sSeq (sSet 8 (sO oAdd (sCons true (sO oAdd (sCons false (sSl (sVar 6) moN (moS (sVar 7))) (sCons true (sTake hTup (sCons true (sO oSub (sCons true (sO oIx (sCons true (sVar 6) (sCons true (sVar 7) sNil))) (sCons true (sC (.int 1)) sNil))) sNil)) sNil))) (sCons true (sSl (sVar 6) (moS (sO oAdd (sCons true (sVar 7) (sCons true (sC (.int 1)) sNil)))) moN) sNil))))
      (sIfS (sAnd (sTb (sO oGt (sCons true (sO oIx (sCons true (sVar 6) (sCons true (sVar 7) sNil))) (sCons true (sC (.int 0)) sNil)))) (sNot (sTr (sCallL 2 (F_zlaw_admitted cn) (sCons true (sVar 3) (sCons true (sVar 8) sNil))))))
        (sRet (sC (.bl false)))
        sNext))
theorem sQ_ev (n : Nat) (hn : n < 1000) (e0 e1 e2 e4 e5 o8 : Option T) (ls : List (List Int)) (hls : ∀ m ∈ ls, m.length = n) (l : List Int) (hl : l.length = n) (p : Nat) (hp : p < n) (h : 0 < l.getD p 0 → admS ls (l.set p (l.getD p 0 - 1)) = true) : ∃ o8',
    sQ cn [e0, e1, e2, some (TL' ls), e4, e5, some (.z (dT l)), some (iT p), o8] = some (.nx [e0, e1, e2, some (TL' ls), e4, e5, some (.z (dT l)), some (iT p), o8']) := by
  have a1 : atI (l.map D.int) (p : Int) = some (.int (l.getD p 0)) := atIi' (by omega)
  have hdT : dT l = .tup (l.map .int) := rfl
  have c1 : cutD (l.map D.int) none (some (p : Int)) = (l.take p).map D.int := by rw [cut_to _ _ (by simp; omega), List.map_take]
  have c2 : cutD (l.map D.int) (some ((p : Int) + 1)) none = (l.drop (p + 1)).map D.int := by
    have := cut_from (l.map D.int) (p + 1) (by simp; omega)
    push_cast at this
    rw [this, List.map_drop]
  have hset : l.set p (l.getD p 0 - 1) = l.take p ++ (l.getD p 0 - 1) :: l.drop (p + 1) := List.set_eq_take_append_cons_drop.trans (if_pos (by omega))
  have l1 : (l.take p).length ≤ 1000 := by rw [List.length_take]; omega
  have l2 : (l.drop (p + 1)).length ≤ 1000 := by rw [List.length_drop]; omega
  have hsl : (l.set p (l.getD p 0 - 1)).length = n := by rw [List.length_set, hl]
  have k1 : F_zlaw_admitted cn [.z (LT ls), .z (dT (l.set p (l.getD p 0 - 1)))] = some (.rt (bT (admS ls (l.set p (l.getD p 0 - 1)))) []) := by rw [x12]; exact inL_ev ls _ (by omega) hls hsl
  have e2' : T.ers (ls.map (T.z ∘ dT)) = ls.map dT := ers_mapf dT ls
  refine ⟨some (.z (dT (l.set p (l.getD p 0 - 1)))), ?_⟩
  generalize admS ls (l.set p (l.getD p 0 - 1)) = b at h k1
  generalize hS : l.set p (l.getD p 0 - 1) = S at hset k1 ⊢
  generalize l.getD p 0 = v at a1 h hset
  rw [hdT]
  refine seq_nx (e := [e0, e1, e2, some (TL' ls), e4, e5, some (.z (.tup (l.map .int))), some (iT p), some (.z (dT S))]) ?_ ?_
  · rw [hset]
    generalize l.take p = A at c1 l1 ⊢
    generalize l.drop (p + 1) = B at c2 l2 ⊢
    have z1 : 1 ≤ sizeLine := by have := sizeLine_val; omega
    have z2 : A.length + 1 ≤ sizeLine := by have := sizeLine_val; omega
    have z3 : A.length + 1 + B.length ≤ sizeLine := by have := sizeLine_val; omega
    have z4 : A.length + (B.length + 1) ≤ sizeLine := by omega
    generalize l.map D.int = DD at a1 c1 c2 ⊢
    simp [sSl, moN, moS, a1, c1, c2, z1, z2, z3, z4, dT]
  · generalize l.map D.int = DD at a1 ⊢
    refine ifS_f (e := [e0, e1, e2, some (TL' ls), e4, e5, some (.z (.tup DD)), some (iT p), some (.z (dT S))]) ?_ rfl
    by_cases h0 : 0 < v
    · rw [h h0] at k1
      simp [a1, h0, e2', k1]
    · simp [a1, h0]
noncomputable abbrev sL : SM := (sSeq (sIfS (sTr (sCallL 2 (F_zlaw_admitted cn) (sCons true (sVar 3) (sCons true (sVar 6) sNil))))
      (sRet (sC (.bl false)))
      sNext)
    (sForR gRng1 (sCons true (sVar 2) sNil) (gmName 7) (sQ cn)))
theorem sL_ev (n : Nat) (hn : n < 1000) (e0 e1 e4 e5 : Option T) (ls : List (List Int)) (hls : ∀ m ∈ ls, m.length = n) (l : List Int) (hl : l.length = n) (h1 : admS ls l = false) (h2 : ∀ p, p < n → 0 < l.getD p 0 → admS ls (l.set p (l.getD p 0 - 1)) = true) (o7 o8 : Option T) : ∃ o7' o8',
    sL cn [e0, e1, some (iT n), some (TL' ls), e4, e5, some (.z (dT l)), o7, o8] = some (.nx [e0, e1, some (iT n), some (TL' ls), e4, e5, some (.z (dT l)), o7', o8']) := by
  have k1 : F_zlaw_admitted cn [.z (LT ls), .z (dT l)] = some (.rt (bT (admS ls l)) []) := by rw [x12]; exact inL_ev ls l (by omega) hls hl
  rw [h1] at k1
  have e2' : T.ers (ls.map (T.z ∘ dT)) = ls.map dT := ers_mapf dT ls
  obtain ⟨e, g2, p7, p8, rfl⟩ := forF_inv (s := gmName 7) (g := sQ cn) (ds := rngD 0 n) (env := [e0, e1, some (iT n), some (TL' ls), e4, e5, some (.z (dT l)), o7, o8])
    (fun _ e => ∃ p7 p8, e = [e0, e1, some (iT n), some (TL' ls), e4, e5, some (.z (dT l)), p7, p8]) ⟨_, _, rfl⟩ (fun p d q env hd ⟨p7, p8, he⟩ => by
      subst he
      obtain ⟨rfl, hp⟩ := rngD_at hd
      obtain ⟨o8', b⟩ := sQ_ev cn n hn e0 e1 (some (iT n)) e4 e5 p8 ls hls l hl p.length hp (h2 _ hp)
      exact ⟨_, _, rfl, .inl b, _, _, rfl⟩)
  refine ⟨p7, p8, seq_nx (e := [e0, e1, some (iT n), some (TL' ls), e4, e5, some (.z (dT l)), o7, o8]) (ifS_f (e := [e0, e1, some (iT n), some (TL' ls), e4, e5, some (.z (dT l)), o7, o8]) ?_ rfl) ((forR1_ev (n := n) (by simp) (by omega)).trans g2)⟩
  simp [e2', k1]
theorem hSecond (ns : List Int) : F_zlaw_second_half cn [.z (.kls (ns.map .int))] = some (.rt (bT true) []) := by
  obtain ⟨xs0, h0, _, _⟩ := hDraws ns 60 (by decide)
  rw [show ((60 : Nat) : Int) = 60 from rfl, ← x1 cn] at h0
  have c0 : T.cleans (xs0.map iT) = true := cleans_map D.int (fun _ => rfl) xs0
  generalize hz : (D.kls (ns.map .int)) = z at h0 ⊢
  have eT : ∀ (xs : List Int) (k : Int), 0 < k → ∃ (v : Nat) (xs' : List Int), F_zlaw_take cn [.lst (xs.map iT), iT k] = some (.rt (iT v) [.lst (xs'.map iT)]) ∧ (v : Int) < k := fun xs k hk => by
    have hb := dtake_bd xs hk
    refine ⟨(dtake xs k).1.toNat, (dtake xs k).2, ?_, by omega⟩
    rw [x2, show (((dtake xs k).1.toNat : Nat) : Int) = (dtake xs k).1 by omega]
    exact hTake xs k hk
  obtain ⟨a, xs1, h1, ha⟩ := eT xs0 3 (by decide)
  obtain ⟨c, xs2, h2, hc⟩ := eT xs1 5 (by decide)
  obtain ⟨ls, xs3, h3, hll, hlim⟩ := lims_ev (1 + a) c 3 (by omega) (by omega) (by omega) xs2
  have h3' : F_zlaw_limits cn [.lst (xs2.map iT), iT ((1 + a : Nat) : Int), iT c, iT 3] = some (.rt (TL' ls) [.lst (xs3.map iT)]) := h3
  have hn : 1 + a ≤ 3 := by omega
  have hn0 : 0 < 1 + a := by omega
  generalize hN : 1 + a = n at h3' hn hn0 hlim
  have hcast : ((n : Nat) : Int) = 1 + (a : Int) := by omega
  have hls : ∀ l ∈ ls, l.length = n := fun l hl => (hlim l hl).1
  have h6 := hCF cn n hn hn0 ls (by omega) hlim
  obtain ⟨V, hcc, hVl, hVb⟩ := cf_go n ls [List.replicate n 0] _ (CF.start n) (fun k _ => by simp) hlim
  change CF n V (cfL n ls) at hcc
  have hsz := hcc.size hn0 hn
  rw [hVl, hVl] at hsz
  have hsz2 : (cfL n ls).length < 64 := by
    have : ([(0 : Int)].length + ls.length) * ([(0 : Int)].length + ls.length + 1) ≤ 6 * 7 := Nat.mul_le_mul (by simp; omega) (by simp; omega)
    omega
  have hpos : ∀ l ∈ cfL n ls, ∀ y ∈ l, (0 : Int) ≤ y := fun l hl y hy => by
    obtain ⟨k, hk, rfl⟩ := List.getElem_of_mem hy
    have hkn : k < n := by rw [← hcc.len l hl]; exact hk
    have := hcc.pos l hl k hkn
    rwa [getD_at hk] at this
  have h7 : F_zlaw_all_numbers cn [.z (LT (cfL n ls)), iT n, iT 0] = some (.rt (bT true) []) := by
    rw [x10]; exact all_ev (cfL n ls) n 0 (fun l hl => ⟨hcc.len l hl, hpos l hl⟩)
  have h8 : F_zlaw_least cn [.z (LT (cfL n ls))] = some (.rt (TL' (cfL n ls)) []) := by
    rw [x20]
    have := least_ev (cfL n ls) n (by omega) hn0 hcc.len hsz2
    rw [least_top, hcc.top] at this
    exact this
  have hadm : ∀ x : List Int, x.length = n → (∀ y ∈ x, 0 ≤ y) → ins (cfL n ls) x = !admS ls x := fun x hx hx0 => ins_cf hx (fun k hk => hx0 _ (getD_mem (by omega))) ls hlim
  obtain ⟨bs, hbs, h9⟩ := hBox cn n 5 hn (by decide)
  rw [show ((5 : Nat) : Int) = 5 from rfl] at h9
  have hlst : ∀ l ∈ cfL n ls, admS ls l = false ∧ ∀ p, p < n → 0 < l.getD p 0 → admS ls (l.set p (l.getD p 0 - 1)) = true := fun l hl => by
    refine ⟨?_, fun p hp h0 => cf_least hlim hcc hl hp h0⟩
    have q2 := hadm l (hcc.len l hl) (hpos l hl)
    have q3 : ins (cfL n ls) l = true := ins_iff.mpr ⟨l, hl, cov_refl l⟩
    rw [q3] at q2
    cases hh : admS ls l with
    | false => rfl
    | true => rw [hh] at q2; cases q2
  obtain ⟨o5, g5⟩ := sA_loop cn n (by omega) (some (.z z)) (some (.lst (xs3.map iT))) (some (iT n)) ls (cfL n ls) hls hcc.len hadm bs hbs [none, none, none] none
  have hcl := cl_dT (cfL n ls)
  have hbcl := cl_dT bs
  have hlen := hcc.len
  generalize cfL n ls = f at *
  obtain ⟨e, g6, p6, p7, p8, rfl⟩ := forF_all (s := gmName 6) (g := sL cn) (ds := f.map dT) (env := [some (.z z), some (.lst (xs3.map iT)), some (iT n), some (TL' ls), none, o5, none, none, none])
    (fun e => ∃ p6 p7 p8, e = [some (.z z), some (.lst (xs3.map iT)), some (iT n), some (TL' ls), none, o5, p6, p7, p8]) ⟨_, _, _, rfl⟩ (fun d hd e i => by
      obtain ⟨p6, p7, p8, rfl⟩ := i
      obtain ⟨l, hl, rfl⟩ := List.mem_map.mp hd
      obtain ⟨q7, q8, b⟩ := sL_ev cn n (by omega) (some (.z z)) (some (.lst (xs3.map iT))) none o5 ls hls l (hlen l hl) (hlst l hl).1 (hlst l hl).2 p7 p8
      exact ⟨_, _, rfl, .inl b, _, _, _, rfl⟩)
  refine fn_rt (e := [some (.z z), some (.lst (xs3.map iT)), some (iT n), some (TL' ls), some (TL' f), o5, p6, p7, p8]) rfl ?_
  unfold g_zlaw_second_half
  have em1 : T.ers (ls.map (T.z ∘ dT)) = ls.map dT := ers_mapf dT ls
  have em2 : zs (ls.map (T.z ∘ dT)) = some (ls.map dT) := zs_mapz dT ls
  have ef1 : T.ers (f.map (T.z ∘ dT)) = f.map dT := ers_mapf dT f
  have ef2 : zs (f.map (T.z ∘ dT)) = some (f.map dT) := zs_mapz dT f
  have eb2 : zs (bs.map (T.z ∘ dT)) = some (bs.map dT) := zs_mapz dT bs
  refine seq_nx (e := [some (.z z), some (.lst (xs0.map iT)), none, none, none, none, none, none, none]) (by simp [h0, T.clean, c0]) ?_
  refine seq_nx (e := [some (.z z), some (.lst (xs1.map iT)), some (iT n), none, none, none, none, none, none]) (by rw [hcast]; simp [h1]) ?_
  refine seq_nx (e := [some (.z z), some (.lst (xs3.map iT)), some (iT n), some (TL' ls), none, none, none, none, none]) (by
    generalize (n : Int) = N at h3' ⊢
    simp [h2, h3']) ?_
  refine seq_nx (e := [some (.z z), some (.lst (xs3.map iT)), some (iT n), some (TL' ls), some (TL' f), none, none, none, none]) (by simp [em1, em2, h6, hcl]) ?_
  refine seq_nx (e := [some (.z z), some (.lst (xs3.map iT)), some (iT n), some (TL' ls), some (TL' f), none, none, none, none]) (ifS_f (e := [some (.z z), some (.lst (xs3.map iT)), some (iT n), some (TL' ls), some (TL' f), none, none, none, none]) (by simp [ef1, h7, h8, hcl]) rfl) ?_
  refine seq_nx (e := [some (.z z), some (.lst (xs3.map iT)), some (iT n), some (TL' ls), some (TL' f), o5, none, none, none]) ?_ ?_
  · have hb9 : (sCallL 2 (F_zlaw_box cn) (sCons true (sVar 2) (sCons true (sC (.int 5)) sNil))) [some (.z z), some (.lst (xs3.map iT)), some (iT n), some (TL' ls), some (TL' f), none, none, none, none] = some (.ok (.t (TL' bs)) [some (.z z), some (.lst (xs3.map iT)), some (iT n), some (TL' ls), some (TL' f), none, none, none, none]) := by simp [h9, hbcl]
    have hels : (TL' bs).els = some (bs.map dT) := by simp [eb2]
    rw [sFor_ap, hb9]
    simp only [hels]
    exact g5
  refine seq_nx (e := [some (.z z), some (.lst (xs3.map iT)), some (iT n), some (TL' ls), some (TL' f), o5, p6, p7, p8]) ?_ (by simp)
  rw [sForN_ap]
  simp [ef1, ef2, g6]
theorem law_ok (ns : List Int) : F_law cn [.z (.kls (ns.map .int))] = some (.rt (.z (.bl true)) []) := by
  have h1 := hFirst cn ns
  have h2 := hSecond cn ns
  generalize (D.kls (ns.map .int)) = z at h1 h2 ⊢
  refine fn_rt (e := [some (.z z)]) rfl ?_
  unfold g_law
  simp [h1, h2]
end
end DL.k05

theorem PySem.Challenge.cw_netguild_k05_complements_holds : PySem.Challenge.rw_netguild_k05_complements.Holds :=
  DL.k05.holds_of fun cn ns _ => DL.k05.law_ok cn ns

