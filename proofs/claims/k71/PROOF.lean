import PyProof.Rows.All
import Wide.All
import OpenK.AllK
import Wide.FinOn
import HandS.ForMost
import HandS.Walk
import HandS.Deep
import HandS.Flow
import HandS.Style
import HandS.Star
import HandS.Zip
import HandS.IsInst
import HandS.TupAny
import HandS.Codes
import HandS.SortInts
import HandS.TupMul
import HandS.Defaults
import HandS.Small
import HandS.Records
import HandS.RaiseMore
import HandS.Head0
import HandS.Head1
import HandS.Head2
import HandS.HeadEnd
import HandS.HeadHook1
import HandS.HeadHook2
import HandS.ForDict
import HandS.DictComp
import HandS.Conv
import KE.GoesEnum
import HandS.ListItems
import HandS.TryOnly
import HandS.Strs
import HandS.TupSets
import HandS.SetFor
import PySem.Challenge.RW_goodsbypapers_k71_money_day_by_day
set_option Elab.async false
set_option linter.all false
set_option autoImplicit false
set_option maxRecDepth 100000
set_option maxHeartbeats 0
/-! Pure data over the hand layer: trees of data (D), handles to what is changed (S, Cell), what stands for them in the heap. -/
namespace G
open PySem L2
/-- a thing as a tree; script: the law's own list -/
inductive D where
  | non | bl (b : Bool) | int (i : Int) | str (x : Str) | tup (ds : List D) | lst (ds : List D) | scr (ns : List Int)
  | dct (kvs : List (Key × D)) | obj (c : Str) (fs : List (Str × D))
  deriving Inhabited
/-- what a name holds: a tree, or the k-th cell -/
inductive S where
  | d (x : D) | hd (k : Nat)
  deriving Inhabited
/-- a cell: a list, a dict, an instance that are changed; frz: one that is changed no more -/
inductive Cell where
  | lst (ds : List D) | dct (kvs : List (Key × D)) | obj (c : Str) (fs : List (Str × D)) | frz (d : D)
  deriving Inhabited
abbrev Ev := List (Option S)
abbrev Ms := List Cell
abbrev EF := Ev → Ms → Option (S × Ms)
abbrev TF := Ev → Ms → Option (Bool × Ms)
abbrev AF := Ev → Ms → Option (List S × Ms)
inductive Out where
  | nx (e : Ev) (M : Ms) | rt (s : S) (M : Ms) | bk (e : Ev) (M : Ms) | ct (e : Ev) (M : Ms)
abbrev SF := Ev → Ms → Option Out
abbrev FSem := List S → Ms → Option (S × Ms)
def Cell.toD : Cell → D
  | .lst ds => .lst ds
  | .dct kvs => .dct kvs
  | .obj c fs => .obj c fs
  | .frz d => d
/-- what is read -/
def view (M : Ms) : S → Option D
  | .d x => some x
  | .hd k => M[k]?.map Cell.toD
/-- it is changed no more -/
def frz (M : Ms) : S → Option (D × Ms)
  | .d x => some (x, M)
  | .hd k => match M[k]? with
    | some c => some (c.toD, M.set k (.frz c.toD))
    | none => none
def frzL : List S → Ms → Option (List D × Ms)
  | [], M => some ([], M)
  | s :: r, M => match frz M s with
    | some (d, M1) => match frzL r M1 with
      | some (ds, M2) => some (d :: ds, M2)
      | none => none
    | none => none
/-! ### what stands for them -/
section
variable (K : PySem.W.Frag) (cA : Str → Option Addr)
mutual
inductive Rep (F : Hp) : V → D → Prop
  | non : Rep F .non .non
  | bl (b : Bool) : Rep F (.bl b) (.bl b)
  | int (i : Int) : Rep F (.int i) (.int i)
  | str (x : Str) : Rep F (.str x) (.str x)
  | tup {a : Addr} {vs : List V} {ds : List D} : SqT K F a vs → Reps F vs ds → Rep F (.ref a) (.tup ds)
  | lst {a : Addr} {vs : List V} {ds : List D} : F a = some (.lst vs) → Reps F vs ds → Rep F (.ref a) (.lst ds)
  | scr {a : Addr} {ns : List Int} : SqL K F a (ns.map V.int) → Rep F (.ref a) (.scr ns)
  | dct {a : Addr} {kvs : List (Key × V)} {kds : List (Key × D)} : Rd F a (.dK kvs) → kvs.map (·.1) = kds.map (·.1) → Reps F (kvs.map (·.2)) (kds.map (·.2)) → Rep F (.ref a) (.dct kds)
  | obj {a C dx : Addr} {c : Str} {fs : List (Str × V)} {gs : List (Str × D)} : cA c = some C → F a = some (.ins C dx fs) → fs.map (·.1) = gs.map (·.1) → Reps F (fs.map (·.2)) (gs.map (·.2)) → (∀ f ∈ gs.map (·.1), NoAttr K C f) → Rep F (.ref a) (.obj c gs)
inductive Reps (F : Hp) : List V → List D → Prop
  | nil : Reps F [] []
  | cons {v : V} {d : D} {vs : List V} {ds : List D} : Rep F v d → Reps F vs ds → Reps F (v :: vs) (d :: ds)
end
end
def Sub (F F' : Hp) : Prop := ∀ a o, F a = some o → F' a = some o
theorem Sub.refl (F : Hp) : Sub F F := fun _ _ h => h
theorem Sub.trans {A B C : Hp} (h : Sub A B) (h' : Sub B C) : Sub A C := fun a o e => h' a o (h a o e)
theorem Sub.upd {F : Hp} {p : Addr} {o : HO} (h : F p = none) : Sub F (L2.upd F p o) := fun a u e => by rw [upd_ne (ne_of_none e h)]; exact e
theorem Sub.none {F H : Hp} (h : Sub F H) {p : Addr} (e : H p = none) : F p = none := by
  cases q : F p with
  | none => rfl
  | some o => rw [h p o q] at e; cases e
theorem Sub.updB {F H : Hp} (h : Sub F H) {p : Addr} {o : HO} : Sub (L2.upd F p o) (L2.upd H p o) := fun a u e => by
  by_cases ha : a = p
  · subst ha; rw [upd_same] at e ⊢; exact e
  · rw [upd_ne ha] at e ⊢; exact h a u e
/-- what stands still stands in the heap; a dict may be locked there -/
def SubH (F H : Hp) : Prop := ∀ a o, F a = some o → H a = some o ∨ ∃ kvs ob, o = .dK kvs ∧ H a = some (.frz ob o)
theorem Sub.h {F H : Hp} (h : Sub F H) : SubH F H := fun a o e => .inl (h a o e)
theorem SubH.none {F H : Hp} (h : SubH F H) {p : Addr} (e : H p = none) : F p = none := by
  cases q : F p with
  | none => rfl
  | some o =>
    rcases h p o q with z | ⟨_, _, _, z⟩
    · rw [z] at e; cases e
    · rw [z] at e; cases e
theorem SubH.transS {F H H' : Hp} (h : SubH F H) (s : Sub H H') : SubH F H' := fun a o e => by
  rcases h a o e with z | ⟨k, b, z, q⟩
  · exact .inl (s _ _ z)
  · exact .inr ⟨k, b, z, s _ _ q⟩
theorem SubH.refl (F : Hp) : SubH F F := fun _ _ h => .inl h
theorem SubH.trans {A B C : Hp} (h : SubH A B) (s : SubH B C) : SubH A C := fun a o e => by
  rcases h a o e with z | ⟨k, b, z, q⟩
  · exact s _ _ z
  · rcases s _ _ q with w | ⟨k', b', w, _⟩
    · exact .inr ⟨k, b, z, w⟩
    · cases w
theorem SubH.upd {F : Hp} {p : Addr} {o : HO} (h : F p = Option.none) : SubH F (L2.upd F p o) := (Sub.upd h).h
theorem SubH.lst {F H : Hp} (h : SubH F H) {a : Addr} {xs : List V} (e : F a = some (.lst xs)) : H a = some (.lst xs) := by
  rcases h _ _ e with z | ⟨_, _, z, _⟩
  · exact z
  · cases z
theorem SubH.tup {F H : Hp} (h : SubH F H) {a : Addr} {xs : List V} (e : F a = some (.tup xs)) : H a = some (.tup xs) := by
  rcases h _ _ e with z | ⟨_, _, z, _⟩
  · exact z
  · cases z
theorem SubH.frz {F H : Hp} (h : SubH F H) {a : Addr} {o : Obj} {u : HO} (e : F a = some (.frz o u)) : H a = some (.frz o u) := by
  rcases h _ _ e with z | ⟨_, _, z, _⟩
  · exact z
  · cases z
theorem SubH.ins {F H : Hp} (h : SubH F H) {a C dx : Addr} {fs : List (Str × V)} (e : F a = some (.ins C dx fs)) : H a = some (.ins C dx fs) := by
  rcases h _ _ e with z | ⟨_, _, z, _⟩
  · exact z
  · cases z
theorem SubH.dk {F H : Hp} (h : SubH F H) {a : Addr} {kvs : List (Key × V)} (e : F a = some (.dK kvs)) : Rd H a (.dK kvs) := by
  rcases h _ _ e with z | ⟨_, ob, z, q⟩
  · exact .inl z
  · exact .inr ⟨ob, q⟩
theorem SubH.rd {F H : Hp} (h : SubH F H) {a : Addr} {kvs : List (Key × V)} (e : Rd F a (.dK kvs)) : Rd H a (.dK kvs) := by
  rcases e with e | ⟨o, e⟩
  · exact h.dk e
  · exact .inr ⟨o, h.frz e⟩
theorem SubH.updB {F H : Hp} (h : SubH F H) {p : Addr} {o : HO} : SubH (L2.upd F p o) (L2.upd H p o) := fun a u e => by
  by_cases ha : a = p
  · subst ha; rw [upd_same] at e ⊢; exact .inl e
  · rw [upd_ne ha] at e ⊢; exact h a u e
theorem SubH.sqT {K : PySem.W.Frag} {F F' : Hp} (h : SubH F F') {a : Addr} {xs : List V} (e : SqT K F a xs) : SqT K F' a xs := by
  rcases e with (e | ⟨o, e⟩) | e
  · exact .inl (.inl (h.tup e))
  · exact .inl (.inr ⟨o, h.frz e⟩)
  · exact .inr e
theorem SubH.sqL {K : PySem.W.Frag} {F F' : Hp} (h : SubH F F') {a : Addr} {xs : List V} (e : SqL K F a xs) : SqL K F' a xs := by
  rcases e with (e | ⟨o, e⟩) | e
  · exact .inl (.inl (h.lst e))
  · exact .inl (.inr ⟨o, h.frz e⟩)
  · exact .inr e
theorem Sub.sqT {K : PySem.W.Frag} {F F' : Hp} (h : Sub F F') {a : Addr} {xs : List V} (e : SqT K F a xs) : SqT K F' a xs := by
  rcases e with (e | ⟨o, e⟩) | e
  · exact .inl (.inl (h _ _ e))
  · exact .inl (.inr ⟨o, h _ _ e⟩)
  · exact .inr e
theorem Sub.sqL {K : PySem.W.Frag} {F F' : Hp} (h : Sub F F') {a : Addr} {xs : List V} (e : SqL K F a xs) : SqL K F' a xs := by
  rcases e with (e | ⟨o, e⟩) | e
  · exact .inl (.inl (h _ _ e))
  · exact .inl (.inr ⟨o, h _ _ e⟩)
  · exact .inr e
section
variable {K : PySem.W.Frag} {cA : Str → Option Addr} {F F' H H' : Hp} {v : V} {d : D} {vs : List V} {ds : List D}
mutual
theorem Rep.mono (h : SubH F F') : ∀ {v : V} {d : D}, Rep K cA F v d → Rep K cA F' v d
  | _, _, .non => .non
  | _, _, .bl b => .bl b
  | _, _, .int i => .int i
  | _, _, .str x => .str x
  | _, _, .tup a r => .tup (h.sqT a) (Reps.mono h r)
  | _, _, .lst a r => .lst (h.lst a) (Reps.mono h r)
  | _, _, .scr a => .scr (h.sqL a)
  | _, _, .dct a e r => .dct (h.rd a) e (Reps.mono h r)
  | _, _, .obj c a e r n => .obj c (h.ins a) e (Reps.mono h r) n
theorem Reps.mono (h : SubH F F') : ∀ {vs : List V} {ds : List D}, Reps K cA F vs ds → Reps K cA F' vs ds
  | _, _, .nil => .nil
  | _, _, .cons r t => .cons (Rep.mono h r) (Reps.mono h t)
end
theorem Reps.length : ∀ {vs : List V} {ds : List D}, Reps K cA F vs ds → vs.length = ds.length
  | _, _, .nil => rfl
  | _, _, .cons _ t => congrArg Nat.succ (Reps.length t)
theorem Reps.get : ∀ {vs : List V} {ds : List D} {i : Nat} {d : D}, Reps K cA F vs ds → ds[i]? = some d → ∃ v, vs[i]? = some v ∧ Rep K cA F v d
  | _, _, _, _, .nil, e => by simp at e
  | _, _, 0, _, .cons r _, e => by simp at e; subst e; exact ⟨_, rfl, r⟩
  | _, _, i + 1, x, .cons _ t, e => by
    obtain ⟨u, h1, h2⟩ := Reps.get (i := i) (d := x) t (by simpa using e)
    exact ⟨u, by simpa using h1, h2⟩
theorem Reps.getV : ∀ {vs : List V} {ds : List D} {i : Nat} {v : V}, Reps K cA F vs ds → vs[i]? = some v → ∃ d, ds[i]? = some d ∧ Rep K cA F v d
  | _, _, _, _, .nil, e => by simp at e
  | _, _, 0, _, .cons r _, e => by simp at e; subst e; exact ⟨_, rfl, r⟩
  | _, _, i + 1, x, .cons _ t, e => by
    obtain ⟨u, h1, h2⟩ := Reps.getV (i := i) (v := x) t (by simpa using e)
    exact ⟨u, by simpa using h1, h2⟩
theorem Reps.append : ∀ {vs ws : List V} {ds es : List D}, Reps K cA F vs ds → Reps K cA F ws es → Reps K cA F (vs ++ ws) (ds ++ es)
  | _, _, _, _, .nil, s => s
  | _, _, _, _, .cons r t, s => .cons r (Reps.append t s)
theorem Reps.drop : ∀ {vs : List V} {ds : List D} (n : Nat), Reps K cA F vs ds → Reps K cA F (vs.drop n) (ds.drop n)
  | _, _, 0, r => r
  | _, _, _ + 1, .nil => .nil
  | _, _, n + 1, .cons _ t => Reps.drop n t
theorem Reps.take : ∀ {vs : List V} {ds : List D} (n : Nat), Reps K cA F vs ds → Reps K cA F (vs.take n) (ds.take n)
  | _, _, 0, _ => .nil
  | _, _, _ + 1, .nil => .nil
  | _, _, n + 1, .cons r t => .cons r (Reps.take n t)
theorem Reps.set {v : V} {d : D} (r : Rep K cA F v d) : ∀ {vs : List V} {ds : List D} (i : Nat), Reps K cA F vs ds → Reps K cA F (vs.set i v) (ds.set i d)
  | _, _, _, .nil => .nil
  | _, _, 0, .cons _ t => .cons r t
  | _, _, i + 1, .cons q t => .cons q (Reps.set r i t)
theorem Reps.reverse {vs : List V} {ds : List D} (h : Reps K cA F vs ds) : Reps K cA F vs.reverse ds.reverse := by
  induction vs generalizing ds with
  | nil => cases h; exact .nil
  | cons v vs ih =>
    cases h with
    | cons r t =>
      rw [List.reverse_cons, List.reverse_cons]
      exact (ih t).append (.cons r .nil)
theorem Reps.snoc (h : Reps K cA F vs ds) (r : Rep K cA F v d) : Reps K cA F (vs ++ [v]) (ds ++ [d]) := h.append (.cons r .nil)
theorem Reps.ints : ∀ {ns : List Int}, Reps K cA F (ns.map V.int) (ns.map D.int)
  | [] => .nil
  | _ :: _ => .cons (.int _) Reps.ints
theorem Reps.intsV : ∀ {ns : List Int} {vs : List V}, Reps K cA F vs (ns.map D.int) → vs = ns.map V.int
  | [], _, h => by cases h; rfl
  | n :: ns, _, h => by
    cases h with
    | cons r t => cases r; rw [Reps.intsV t]; rfl
theorem Reps.strsV : ∀ {ns : List Str} {vs : List V}, Reps K cA F vs (ns.map D.str) → vs = ns.map V.str
  | [], _, h => by cases h; rfl
  | n :: ns, _, h => by
    cases h with
    | cons r t => cases r; rw [Reps.strsV t]; rfl
theorem Reps.blsV : ∀ {ns : List Bool} {vs : List V}, Reps K cA F vs (ns.map D.bl) → vs = ns.map V.bl
  | [], _, h => by cases h; rfl
  | n :: ns, _, h => by
    cases h with
    | cons r t => cases r; rw [Reps.blsV t]; rfl
end
/-- a value as it is read: what it is made of stands still -/
inductive VRep (K : PySem.W.Frag) (cA : Str → Option Addr) (F H : Hp) : V → D → Prop
  | rep {v : V} {d : D} : Rep K cA F v d → VRep K cA F H v d
  | lst {a : Addr} {vs : List V} {ds : List D} : H a = some (.lst vs) → Reps K cA F vs ds → VRep K cA F H (.ref a) (.lst ds)
  | dct {a : Addr} {kvs : List (Key × V)} {kds : List (Key × D)} : H a = some (.dK kvs) → kvs.map (·.1) = kds.map (·.1) → Reps K cA F (kvs.map (·.2)) (kds.map (·.2)) → VRep K cA F H (.ref a) (.dct kds)
  | obj {a C dx : Addr} {c : Str} {fs : List (Str × V)} {gs : List (Str × D)} : cA c = some C → H a = some (.ins C dx fs) → fs.map (·.1) = gs.map (·.1) → Reps K cA F (fs.map (·.2)) (gs.map (·.2)) → (∀ f ∈ gs.map (·.1), NoAttr K C f) → VRep K cA F H (.ref a) (.obj c gs)
/-- what a cell says of its address -/
def CellR (K : PySem.W.Frag) (cA : Str → Option Addr) (F H : Hp) (a : Addr) : Cell → Prop
  | .lst ds => F a = none ∧ ∃ vs, H a = some (.lst vs) ∧ Reps K cA F vs ds
  | .dct kds => F a = none ∧ ∃ kvs, H a = some (.dK kvs) ∧ kvs.map (·.1) = kds.map (·.1) ∧ Reps K cA F (kvs.map (·.2)) (kds.map (·.2))
  | .obj c gs => F a = none ∧ ∃ C dx fs, cA c = some C ∧ H a = some (.ins C dx fs) ∧ fs.map (·.1) = gs.map (·.1) ∧ Reps K cA F (fs.map (·.2)) (gs.map (·.2)) ∧ (∀ f ∈ gs.map (·.1), NoAttr K C f)
  | .frz d => Rep K cA F (.ref a) d
/-- the heap H holds the cells M at κ; F: what stands still -/
structure Stt (K : PySem.W.Frag) (cA : Str → Option Addr) (F H : Hp) (κ : List Addr) (M : Ms) : Prop where
  sub : SubH F H
  nd : κ.Nodup
  len : κ.length = M.length
  tr : ∀ a ∈ κ, ∃ o, H a = some o
  cell : ∀ (k : Nat) (a : Addr) (c : Cell), κ[k]? = some a → M[k]? = some c → CellR K cA F H a c
structure Ext (F : Hp) (κ : List Addr) (F' : Hp) (κ' : List Addr) : Prop where
  sub : SubH F F'
  pre : ∃ m, κ' = κ ++ m
theorem Ext.refl (F : Hp) (κ : List Addr) : Ext F κ F κ := ⟨.refl F, [], by simp⟩
theorem Ext.trans {F F1 F2 : Hp} {κ κ1 κ2 : List Addr} (a : Ext F κ F1 κ1) (b : Ext F1 κ1 F2 κ2) : Ext F κ F2 κ2 := by
  obtain ⟨s, m, rfl⟩ := a
  obtain ⟨t, n, rfl⟩ := b
  exact ⟨s.trans t, m ++ n, by simp⟩
theorem Ext.sub' {F F' : Hp} {κ : List Addr} (h : SubH F F') : Ext F κ F' κ := ⟨h, [], by simp⟩
def SRep (K : PySem.W.Frag) (cA : Str → Option Addr) (F : Hp) (κ : List Addr) (v : V) : S → Prop
  | .d x => Rep K cA F v x
  | .hd k => ∃ a, κ[k]? = some a ∧ v = .ref a
section
variable {K : PySem.W.Frag} {cA : Str → Option Addr} {F F' H H' : Hp} {κ κ' : List Addr} {M M' : Ms} {v : V} {s : S} {d : D}
theorem SRep.ext (e : Ext F κ F' κ') (h : SRep K cA F κ v s) : SRep K cA F' κ' v s := by
  obtain ⟨hs, m, rfl⟩ := e
  cases s with
  | d x => exact Rep.mono hs h
  | hd k =>
    obtain ⟨a, h1, h2⟩ := h
    obtain ⟨hl, _⟩ := List.getElem?_eq_some_iff.mp h1
    exact ⟨a, by rw [List.getElem?_append_left hl]; exact h1, h2⟩
theorem Stt.view (t : Stt K cA F H κ M) (r : SRep K cA F κ v s) (h : view M s = some d) : VRep K cA F H v d := by
  cases s with
  | d x =>
    have e : x = d := Option.some.inj h
    subst e
    exact .rep r
  | hd k =>
    obtain ⟨a, h1, rfl⟩ := r
    have h : M[k]?.map Cell.toD = some d := h
    cases e : M[k]? with
    | none => rw [e] at h; cases h
    | some c =>
      rw [e] at h
      have e2 : c.toD = d := Option.some.inj h
      subst e2
      have q := t.cell k a c h1 e
      cases c with
      | lst ds => obtain ⟨_, vs, q1, q2⟩ := q; exact .lst q1 q2
      | dct kds => obtain ⟨_, kvs, q1, q2, q3⟩ := q; exact .dct q1 q2 q3
      | obj c gs => obtain ⟨_, C, dx, fs, q1, q2, q3, q4, q5⟩ := q; exact .obj q1 q2 q3 q4 q5
      | frz d => exact .rep q
/-- new things beside -/
structure New (F H F' H' : Hp) : Prop where
  fr : SubH F F'
  sub : SubH F' H'
  same : Sub H H'
  old : ∀ a o, H a = some o → F a = none → F' a = none
theorem New.refl (h : SubH F H) : New F H F H := ⟨.refl _, h, .refl _, fun _ _ _ e => e⟩
theorem New.trans {F1 H1 F2 H2 : Hp} (a : New F H F1 H1) (b : New F1 H1 F2 H2) : New F H F2 H2 :=
  ⟨a.fr.trans b.fr, b.sub, a.same.trans b.same, fun x o e n => b.old x o (a.same x o e) (a.old x o e n)⟩
theorem New.one (h : SubH F H) {p : Addr} {o : HO} (hp : H p = none) : New F H (L2.upd F p o) (L2.upd H p o) :=
  ⟨SubH.upd (h.none hp), h.updB, Sub.upd hp, fun a u e n => by rw [upd_ne (ne_of_none e hp)]; exact n⟩
/-- beside, but not standing still -/
theorem New.oneH (h : SubH F H) {p : Addr} {o : HO} (hp : H p = none) : New F H F (L2.upd H p o) :=
  ⟨.refl _, h.transS (Sub.upd hp), Sub.upd hp, fun a u e n => n⟩
theorem CellR.new {a : Addr} {c : Cell} (n : New F H F' H') (h : CellR K cA F H a c) : CellR K cA F' H' a c := by
  cases c with
  | lst ds => obtain ⟨f, vs, q1, q2⟩ := h; exact ⟨n.old _ _ q1 f, vs, n.same _ _ q1, q2.mono n.fr⟩
  | dct kds => obtain ⟨f, kvs, q1, q2, q3⟩ := h; exact ⟨n.old _ _ q1 f, kvs, n.same _ _ q1, q2, q3.mono n.fr⟩
  | obj c gs => obtain ⟨f, C, dx, fs, q1, q2, q3, q4, q5⟩ := h; exact ⟨n.old _ _ q2 f, C, dx, fs, q1, n.same _ _ q2, q3, q4.mono n.fr, q5⟩
  | frz d => exact Rep.mono n.fr h
theorem Stt.new (t : Stt K cA F H κ M) (n : New F H F' H') : Stt K cA F' H' κ M := ⟨n.sub, t.nd, t.len, fun a ha => let ⟨o, e⟩ := t.tr a ha; ⟨o, n.same _ _ e⟩, fun k a c h1 h2 => (t.cell k a c h1 h2).new n⟩
theorem nodup_get {α : Type} {l : List α} (hN : l.Nodup) {i j : Nat} {x : α} (a : l[i]? = some x) (b : l[j]? = some x) : i = j := by
  obtain ⟨h1, e1⟩ := List.getElem?_eq_some_iff.mp a
  obtain ⟨h2, e2⟩ := List.getElem?_eq_some_iff.mp b
  exact (List.getElem_inj hN).mp (e1.trans e2.symm)
/-- a cell is changed no more -/
theorem Stt.frz (t : Stt K cA F H κ M) (r : SRep K cA F κ v s) (h : frz M s = some (d, M')) : ∃ F', Ext F κ F' κ ∧ Stt K cA F' H κ M' ∧ Rep K cA F' v d := by
  cases s with
  | d x =>
    have e : x = d ∧ M = M' := by simpa [G.frz] using h
    obtain ⟨rfl, rfl⟩ := e
    exact ⟨F, .refl _ _, t, r⟩
  | hd k =>
    obtain ⟨a, h1, rfl⟩ := r
    unfold G.frz at h
    cases e : M[k]? with
    | none => simp [e] at h
    | some c =>
      simp only [e, Option.some.injEq, Prod.mk.injEq] at h
      obtain ⟨rfl, rfl⟩ := h
      have q := t.cell k a c h1 e
      have key : ∀ (o : HO), F a = none → H a = some o → Rep K cA (L2.upd F a o) (.ref a) c.toD → ∃ F', Ext F κ F' κ ∧ Stt K cA F' H κ (M.set k (.frz c.toD)) ∧ Rep K cA F' (.ref a) c.toD := fun o fa ha rep => by
        have hsub : SubH (L2.upd F a o) H := fun b u e => by
          by_cases hb : b = a
          · subst hb; rw [upd_same] at e; cases e; exact .inl ha
          · rw [upd_ne hb] at e; exact t.sub b u e
        refine ⟨L2.upd F a o, .sub' (SubH.upd fa), ⟨hsub, t.nd, by rw [List.length_set]; exact t.len, t.tr, fun j b c' e1 e2 => ?_⟩, rep⟩
        by_cases hj : k = j
        · subst hj
          have hl : k < M.length := (List.getElem?_eq_some_iff.mp e).1
          rw [List.getElem?_set_self hl] at e2
          cases e2
          rw [h1] at e1; cases e1
          exact rep
        · rw [List.getElem?_set_ne hj] at e2
          have hne : b ≠ a := fun z => hj (nodup_get t.nd h1 (by rw [← z]; exact e1))
          have q := t.cell j b c' e1 e2
          have up := SubH.upd (o := o) fa
          cases c' with
          | lst ds => obtain ⟨f, vs, q1, q2⟩ := q; exact ⟨by rw [upd_ne hne]; exact f, vs, q1, q2.mono up⟩
          | dct kds => obtain ⟨f, kvs, q1, q2, q3⟩ := q; exact ⟨by rw [upd_ne hne]; exact f, kvs, q1, q2, q3.mono up⟩
          | obj c gs => obtain ⟨f, C, dx, fs, q1, q2, q3, q4, q5⟩ := q; exact ⟨by rw [upd_ne hne]; exact f, C, dx, fs, q1, q2, q3, q4.mono up, q5⟩
          | frz d => exact Rep.mono up q
      cases c with
      | lst ds => obtain ⟨f, vs, q1, q2⟩ := q; exact key _ f q1 (.lst upd_same (q2.mono (SubH.upd f)))
      | dct kds => obtain ⟨f, kvs, q1, q2, q3⟩ := q; exact key _ f q1 (.dct (.inl upd_same) q2 (q3.mono (SubH.upd f)))
      | obj c gs => obtain ⟨f, C, dx, fs, q1, q2, q3, q4, q5⟩ := q; exact key _ f q2 (.obj q1 upd_same q3 (q4.mono (SubH.upd f)) q5)
      | frz d =>
        refine ⟨F, .refl _ _, ⟨t.sub, t.nd, by rw [List.length_set]; exact t.len, t.tr, fun j b c' e1 e2 => ?_⟩, q⟩
        by_cases hj : k = j
        · subst hj
          have hl : k < M.length := (List.getElem?_eq_some_iff.mp e).1
          rw [List.getElem?_set_self hl] at e2
          cases e2
          rw [h1] at e1; cases e1
          exact q
        · rw [List.getElem?_set_ne hj] at e2
          exact t.cell j b c' e1 e2
inductive SReps (K : PySem.W.Frag) (cA : Str → Option Addr) (F : Hp) (κ : List Addr) : List V → List S → Prop
  | nil : SReps K cA F κ [] []
  | cons {v : V} {s : S} {vs : List V} {ss : List S} : SRep K cA F κ v s → SReps K cA F κ vs ss → SReps K cA F κ (v :: vs) (s :: ss)
theorem SReps.ext {vs : List V} {ss : List S} (e : Ext F κ F' κ') (h : SReps K cA F κ vs ss) : SReps K cA F' κ' vs ss := by
  induction h with
  | nil => exact .nil
  | cons r _ ih => exact .cons (r.ext e) ih
theorem SReps.length {vs : List V} {ss : List S} (h : SReps K cA F κ vs ss) : vs.length = ss.length := by
  induction h with
  | nil => rfl
  | cons r _ ih => exact congrArg Nat.succ ih
theorem SReps.append {vs ws : List V} {ss ts : List S} (h : SReps K cA F κ vs ss) (h' : SReps K cA F κ ws ts) : SReps K cA F κ (vs ++ ws) (ss ++ ts) := by
  induction h with
  | nil => exact h'
  | cons r _ ih => exact .cons r ih
theorem SReps.of {vs : List V} {ds : List D} (h : Reps K cA F vs ds) : SReps K cA F κ vs (ds.map S.d) := by
  induction vs generalizing ds with
  | nil => cases h; exact .nil
  | cons v vs ih => cases h with | cons r t => exact .cons r (ih t)
theorem Stt.frzL : ∀ {ss : List S} {vs : List V} {ds : List D} {F : Hp} {M M' : Ms}, Stt K cA F H κ M → SReps K cA F κ vs ss → frzL ss M = some (ds, M') → ∃ F', Ext F κ F' κ ∧ Stt K cA F' H κ M' ∧ Reps K cA F' vs ds
  | [], vs, ds, F, M, M', t, r, h => by
    have e : [] = ds ∧ M = M' := by simpa [G.frzL] using h
    obtain ⟨rfl, rfl⟩ := e
    cases r
    exact ⟨F, .refl _ _, t, .nil⟩
  | s :: ss, vs, ds, F, M, M', t, r, h => by
    cases r with
    | cons r rr =>
      unfold G.frzL at h
      cases e : G.frz M s with
      | none => simp [e] at h
      | some p =>
        obtain ⟨d, M1⟩ := p
        simp only [e] at h
        cases e2 : G.frzL ss M1 with
        | none => simp [e2] at h
        | some p =>
          obtain ⟨ds', M2⟩ := p
          simp only [e2, Option.some.injEq, Prod.mk.injEq] at h
          obtain ⟨rfl, rfl⟩ := h
          obtain ⟨F1, x1, t1, r1⟩ := t.frz r e
          obtain ⟨F2, x2, t2, r2⟩ := Stt.frzL t1 (rr.ext x1) e2
          exact ⟨F2, x1.trans x2, t2, .cons (r1.mono x2.sub) r2⟩
end
/-- the frame's slots -/
structure EnvR (K : PySem.W.Frag) (cA : Str → Option Addr) (F : Hp) (κ : List Addr) (σ : L2.St) (env : Ev) : Prop where
  len : σ.length = env.length
  at_ : ∀ (i : Nat) (s : S), env[i]? = some (some s) → ∃ v, σ[i]? = some (some v) ∧ SRep K cA F κ v s
theorem EnvR.ext {K : PySem.W.Frag} {cA : Str → Option Addr} {F F' : Hp} {κ κ' : List Addr} {σ : L2.St} {env : Ev} (e : Ext F κ F' κ') (h : EnvR K cA F κ σ env) : EnvR K cA F' κ' σ env :=
  ⟨h.len, fun i s q => let ⟨v, a, b⟩ := h.at_ i s q; ⟨v, a, b.ext e⟩⟩
theorem EnvR.set {K : PySem.W.Frag} {cA : Str → Option Addr} {F : Hp} {κ : List Addr} {σ : L2.St} {env : Ev} (h : EnvR K cA F κ σ env) {i : Nat} {v : V} {s : S} (r : SRep K cA F κ v s) : EnvR K cA F κ (σ.set i (some v)) (env.set i (some s)) := by
  refine ⟨by simp [h.len], fun j t q => ?_⟩
  by_cases hj : i = j
  · subst hj
    have hl : i < env.length := by
      obtain ⟨hl, _⟩ := List.getElem?_eq_some_iff.mp q
      simpa using hl
    rw [List.getElem?_set_self hl] at q
    cases q
    exact ⟨v, List.getElem?_set_self (by rw [h.len]; exact hl), r⟩
  · rw [List.getElem?_set_ne hj] at q ⊢
    exact h.at_ j t q
theorem EnvR.unset {K : PySem.W.Frag} {cA : Str → Option Addr} {F : Hp} {κ : List Addr} {σ : L2.St} {env : Ev} (h : EnvR K cA F κ σ env) {i : Nat} {o : Option V} : EnvR K cA F κ (σ.set i o) (env.set i none) := by
  refine ⟨by simp [h.len], fun j t q => ?_⟩
  by_cases hj : i = j
  · subst hj
    obtain ⟨hl, _⟩ := List.getElem?_eq_some_iff.mp q
    rw [List.getElem?_set_self (by simpa using hl)] at q
    cases q
  · rw [List.getElem?_set_ne hj] at q ⊢
    exact h.at_ j t q
end G
/-! Judgements: an expression's meaning as a function of the slots and the cells; rules. -/
namespace G
open PySem L2
/-- where code runs -/
structure Wd where
  P : Program
  w : World
  K : PySem.W.Frag
  mg : Str → Option Value
  base : Heap
  cA : Str → Option Addr
  k : Nat
  cls : ∀ c C, cA c = some C → Cls K C
/-- a scope, and the names of it whose cells are the frame's own -/
structure Scp extends Scope where
  fs : Str → Bool
structure Gd (W : Wd) (N : List Str) (sc : Scp) (X : Cx) : Prop where
  prog : X.prog = W.P
  w : X.w = W.w
  K : X.K = W.K
  mg : X.mg = W.mg
  base : X.base = W.base
  eN : X.N = N
  eS : X.env.scope = sc.toScope
  calm : X.calm = true
  hr : Room W.k X.A
  nd : N.Nodup
  fn : ∀ x, sc.fs x = true → X.fn x = true
  xe : X.xe = fun _ _ => False
abbrev RepW (W : Wd) := Rep W.K W.cA
abbrev SttW (W : Wd) := Stt W.K W.cA
def tEv (W : Wd) (f : EF) : TE := fun σ H Q => ∃ env M s M' F κ, f env M = some (s, M') ∧ Stt W.K W.cA F H κ M ∧ EnvR W.K W.cA F κ σ env ∧
  ∀ F' κ' H' v, Ext F κ F' κ' → Stt W.K W.cA F' H' κ' M' → SRep W.K W.cA F' κ' v s → Q v H'
def tTv (W : Wd) (f : TF) : TT := fun σ H Q => ∃ env M b M' F κ, f env M = some (b, M') ∧ Stt W.K W.cA F H κ M ∧ EnvR W.K W.cA F κ σ env ∧
  ∀ F' κ' H', Ext F κ F' κ' → Stt W.K W.cA F' H' κ' M' → Q b H'
def tAv (W : Wd) (f : AF) : TA := fun σ H Q => ∃ env M ss M' F κ, f env M = some (ss, M') ∧ Stt W.K W.cA F H κ M ∧ EnvR W.K W.cA F κ σ env ∧
  ∀ F' κ' H' vs, Ext F κ F' κ' → Stt W.K W.cA F' H' κ' M' → SReps W.K W.cA F' κ' vs ss → Q vs H'
def OutQ (W : Wd) (F : Hp) (κ : List Addr) (σ : L2.St) (D : Ends) : Out → Prop
  | .nx e M => ∀ F' κ' H' σ', Ext F κ F' κ' → Stt W.K W.cA F' H' κ' M → EnvR W.K W.cA F' κ' σ' e → D.nx σ' H'
  | .rt s M => ∀ F' κ' H' v, Ext F κ F' κ' → Stt W.K W.cA F' H' κ' M → SRep W.K W.cA F' κ' v s → D.rt v H'
  | .bk e M => ∀ F' κ' H' σ', Ext F κ F' κ' → Stt W.K W.cA F' H' κ' M → EnvR W.K W.cA F' κ' σ' e → D.bk σ' H'
  | .ct e M => ∀ F' κ' H' σ', Ext F κ F' κ' → Stt W.K W.cA F' H' κ' M → EnvR W.K W.cA F' κ' σ' e → D.ct σ' H'
theorem OutQ.ext {W : Wd} {F F' : Hp} {κ κ' : List Addr} {σ σ' : L2.St} {D : Ends} {o : Out} (x : Ext F κ F' κ') (h : OutQ W F κ σ D o) : OutQ W F' κ' σ' D o := by
  cases o with
  | nx e M => exact fun F2 κ2 H2 σ2 x2 => h F2 κ2 H2 σ2 (x.trans x2)
  | rt s M => exact fun F2 κ2 H2 v x2 => h F2 κ2 H2 v (x.trans x2)
  | bk e M => exact fun F2 κ2 H2 σ2 x2 => h F2 κ2 H2 σ2 (x.trans x2)
  | ct e M => exact fun F2 κ2 H2 σ2 x2 => h F2 κ2 H2 σ2 (x.trans x2)
def tSv (W : Wd) (f : SF) : TS := fun D σ H => ∃ env M o F κ, f env M = some o ∧ Stt W.K W.cA F H κ M ∧ EnvR W.K W.cA F κ σ env ∧ OutQ W F κ σ D o
section
variable (W : Wd) (N : List Str) (sc : Scp)
def DE (e : Expr) (f : EF) : Prop := ∀ X, Gd W N sc X → PE X e (tEv W f)
def DT (e : Expr) (f : TF) : Prop := ∀ X, Gd W N sc X → PT X e (tTv W f)
def DA (es : List Expr) (f : AF) : Prop := ∀ X, Gd W N sc X → PA X es (tAv W f)
def DS (st : Stmt) (f : SF) : Prop := ∀ X, Gd W N sc X → PS X st (tSv W f)
def DB (st : List Stmt) (f : SF) : Prop := ∀ X, Gd W N sc X → PSs X st (tSv W f)
end
/-! ### readings are monotone -/
theorem PE.imp {X : Cx} {e : Expr} {t t' : TE} (h : PE X e t) (i : ∀ σ H Q, t' σ H Q → t σ H Q) : PE X e t' := ⟨fun pins s σ H Q I hw => h.run pins s σ H Q I (i σ H Q hw)⟩
theorem PT.imp {X : Cx} {e : Expr} {t t' : TT} (h : PT X e t) (i : ∀ σ H Q, t' σ H Q → t σ H Q) : PT X e t' := ⟨fun pins s σ H Q I hw => h.run pins s σ H Q I (i σ H Q hw)⟩
theorem PA.imp {X : Cx} {e : List Expr} {t t' : TA} (h : PA X e t) (i : ∀ σ H Q, t' σ H Q → t σ H Q) : PA X e t' := ⟨fun pos pins s σ H Q I hw => h.run pos pins s σ H Q I (i σ H Q hw)⟩
theorem PS.imp {X : Cx} {e : Stmt} {t t' : TS} (h : PS X e t) (i : ∀ D σ H, t' D σ H → t D σ H) : PS X e t' := ⟨fun pins s σ H D I hw => h.run pins s σ H D I (i D σ H hw)⟩
theorem PSs.imp {X : Cx} {e : List Stmt} {t t' : TS} (h : PSs X e t) (i : ∀ D σ H, t' D σ H → t D σ H) : PSs X e t' := ⟨fun pins s σ H D I hw => h.run pins s σ H D I (i D σ H hw)⟩
/-- any rule of an operator, chosen by the values -/
def rStar (X : Cx) (f : Value → Value → Sem Value) : R2 := fun x y H Q => ∃ r, OpR X f r ∧ r x y H Q
theorem OpR.star (X : Cx) (f : Value → Value → Sem Value) : OpR X f (rStar X f) := fun pins s σ H x y v u Q I rx ry ⟨r, h, q⟩ => h pins s σ H x y v u Q I rx ry q
def uStar (X : Cx) (f : Value → Sem Value) : V → Hp → VK → Prop := fun x H Q => ∃ r, UnR X f r ∧ r x H Q
theorem UnR.star (X : Cx) (f : Value → Sem Value) : UnR X f (uStar X f) := fun pins s σ H x v Q I rx ⟨r, h, q⟩ => h pins s σ H x v Q I rx q
def cStar (X : Cx) (f : Value) : List V → Hp → VK → Prop := fun xs H Q => ∃ r, CallR X f r ∧ r xs H Q
theorem CallR.star (X : Cx) (f : Value) : CallR X f (cStar X f) := fun pins s σ H xs us Q I rx ⟨r, h, q⟩ => h pins s σ H xs us Q I rx q
def ixStar (X : Cx) : R2 := fun x y H Q => ∃ r, IxR X r ∧ r x y H Q
theorem IxR.star (X : Cx) : IxR X (ixStar X) := fun va sl pins s σ H x y v u Q I rx ry ⟨r, h, q⟩ => h va sl pins s σ H x y v u Q I rx ry q
def slStar (X : Cx) : V → Option Int → Option Int → Hp → VK → Prop := fun x lo hi H Q => ∃ r, SlR X r ∧ r x lo hi H Q
theorem SlR.star (X : Cx) : SlR X (slStar X) := fun pins s σ H x v vl vu lo hi sl Q I rx hs pl pu ⟨r, h, q⟩ => h pins s σ H x v vl vu lo hi sl Q I rx hs pl pu q
def mtStar (X : Cx) (id : String) : V → List V → Hp → VK → Prop := fun x xs H Q => ∃ r, MtR X id r ∧ r x xs H Q
theorem MtR.star (X : Cx) (id : String) : MtR X id (mtStar X id) := fun pins s σ H x xs v us Q I rx rs ⟨r, h, q⟩ => h pins s σ H x xs v us Q I rx rs q
/-! ### operators by data -/
/-- f on the data x, y is g x y -/
def OpS (f : Value → Value → Sem Value) (g : D → D → Option D) : Prop :=
  ∀ (W : Wd) (N : List Str) (sc : Scp) (X : Cx), Gd W N sc X → ∀ (F H : Hp) (x y : V) (dx dy r : D), SubH F H → VRep W.K W.cA F H x dx → VRep W.K W.cA F H y dy → g dx dy = some r →
    ∀ Q : VK, (∀ v F' H', New F H F' H' → Rep W.K W.cA F' v r → Q v H') → rStar X f x y H Q
def UnS (f : Value → Sem Value) (g : D → Option D) : Prop :=
  ∀ (W : Wd) (N : List Str) (sc : Scp) (X : Cx), Gd W N sc X → ∀ (F H : Hp) (x : V) (dx r : D), SubH F H → VRep W.K W.cA F H x dx → g dx = some r →
    ∀ Q : VK, (∀ v F' H', New F H F' H' → Rep W.K W.cA F' v r → Q v H') → uStar X f x H Q
inductive VReps (K : PySem.W.Frag) (cA : Str → Option Addr) (F H : Hp) : List V → List D → Prop
  | nil : VReps K cA F H [] []
  | cons {v : V} {d : D} {vs : List V} {ds : List D} : VRep K cA F H v d → VReps K cA F H vs ds → VReps K cA F H (v :: vs) (d :: ds)
def CallS (f : Value) (g : List D → Option D) : Prop :=
  ∀ (W : Wd) (N : List Str) (sc : Scp) (X : Cx), Gd W N sc X → ∀ (F H : Hp) (xs : List V) (dxs : List D) (r : D), SubH F H → VReps W.K W.cA F H xs dxs → g dxs = some r →
    ∀ Q : VK, (∀ v F' H', New F H F' H' → Rep W.K W.cA F' v r → Q v H') → cStar X f xs H Q
def views (M : Ms) : List S → Option (List D)
  | [] => some []
  | s :: r => match view M s with
    | some d => match views M r with
      | some ds => some (d :: ds)
      | none => none
    | none => none
theorem Stt.views {K : PySem.W.Frag} {cA : Str → Option Addr} {F H : Hp} {κ : List Addr} {M : Ms} (t : Stt K cA F H κ M) : ∀ {ss : List S} {vs : List V} {ds : List D}, SReps K cA F κ vs ss → views M ss = some ds → VReps K cA F H vs ds
  | [], _, _, h, e => by
    cases h
    have e' : [] = _ := Option.some.inj e
    subst e'
    exact .nil
  | s :: ss, _, ds, h, e => by
    cases h with
    | cons r rr =>
      unfold G.views at e
      cases e1 : G.view M s with
      | none => simp [e1] at e
      | some d =>
        simp only [e1] at e
        cases e2 : G.views M ss with
        | none => simp [e2] at e
        | some ds' =>
          simp only [e2, Option.some.injEq] at e
          subst e
          exact .cons (t.view r e1) (Stt.views t rr e2)
/-! ### the meanings -/
def eVar (i : Nat) : EF := fun env M => match env[i]? with
  | some (some s) => some (s, M)
  | _ => none
def eCst (d : D) : EF := fun _ M => some (.d d, M)
def eBin (g : D → D → Option D) (fa fb : EF) : EF := fun env M => match fa env M with
  | some (a, M1) => match fb env M1 with
    | some (b, M2) => match view M2 a with
      | some x => match view M2 b with
        | some y => match g x y with
          | some r => some (.d r, M2)
          | none => none
        | none => none
      | none => none
    | none => none
  | none => none
def eUn (g : D → Option D) (fa : EF) : EF := fun env M => match fa env M with
  | some (a, M1) => match view M1 a with
    | some x => match g x with
      | some r => some (.d r, M1)
      | none => none
    | none => none
  | none => none
def eCall (g : List D → Option D) (fa : AF) : EF := fun env M => match fa env M with
  | some (ss, M1) => match views M1 ss with
    | some xs => match g xs with
      | some r => some (.d r, M1)
      | none => none
    | none => none
  | none => none
/-- a value as a truth -/
def eTest (f : EF) : TF := fun env M => match f env M with
  | some (.d (.bl b), M1) => some (b, M1)
  | _ => none
def tAnd_ (f g : TF) : TF := fun env M => match f env M with
  | some (true, M1) => g env M1
  | r => r
def tOr_ (f g : TF) : TF := fun env M => match f env M with
  | some (false, M1) => g env M1
  | r => r
def tNot_ (f : TF) : TF := fun env M => match f env M with
  | some (b, M1) => some (!b, M1)
  | none => none
def eOf (f : TF) : EF := fun env M => match f env M with
  | some (b, M1) => some (.d (.bl b), M1)
  | none => none
def eAnd (f g : EF) : EF := fun env M => match f env M with
  | some (.d (.bl true), M1) => g env M1
  | some (.d (.bl false), M1) => some (.d (.bl false), M1)
  | _ => none
def eOr (f g : EF) : EF := fun env M => match f env M with
  | some (.d (.bl true), M1) => some (.d (.bl true), M1)
  | some (.d (.bl false), M1) => g env M1
  | _ => none
def eIf (c : TF) (f g : EF) : EF := fun env M => match c env M with
  | some (true, M1) => f env M1
  | some (false, M1) => g env M1
  | none => none
def aNil : AF := fun _ M => some ([], M)
def aCons (f : EF) (g : AF) : AF := fun env M => match f env M with
  | some (s, M1) => match g env M1 with
    | some (ss, M2) => some (s :: ss, M2)
    | none => none
  | none => none
/-- the items of a list or a tuple -/
def itemsOf : D → Option (List D)
  | .lst ds => some ds
  | .tup ds => some ds
  | .scr ns => some (ns.map D.int)
  | _ => none
def aStar (f : EF) (g : AF) : AF := fun env M => match f env M with
  | some (s, M1) => match view M1 s with
    | some d => match itemsOf d with
      | some xs => match g env M1 with
        | some (ss, M2) => some (xs.map S.d ++ ss, M2)
        | none => none
      | none => none
    | none => none
  | none => none
def eTup (f : AF) : EF := fun env M => match f env M with
  | some (ss, M1) => match frzL ss M1 with
    | some (ds, M2) => if ds.length ≤ sizeLine then some (.d (.tup ds), M2) else none
    | none => none
  | none => none
def eLst (f : AF) : EF := fun env M => match f env M with
  | some (ss, M1) => match frzL ss M1 with
    | some (ds, M2) => if ds.length ≤ sizeLine then some (.d (.lst ds), M2) else none
    | none => none
  | none => none
section
variable {W : Wd} {N : List Str} {sc : Scp} {a b c : Expr} {fa fb fc : EF} {es : List Expr} {ga : AF} {pos : Pos}
theorem de_var {i : Nat} {x : Str} (hN : N[i]? = some x) (hv : Vis sc.toScope x) (h1 : (x == ("__debug__" : Str)) = false) (h2 : (x == ("__classdict__" : Str)) = false) : DE W N sc (.Name x pos) (eVar i) := by
  intro X gd
  refine PE.imp (pe_var (i := i) (by rw [gd.eN]; exact hN) (by rw [gd.eS]; exact hv) h1 h2) fun σ H Q h => ?_
  obtain ⟨env, M, s, M', F, κ, e, t, er, k⟩ := h
  unfold eVar at e
  split at e
  · rename_i s' hs
    simp only [Option.some.injEq, Prod.mk.injEq] at e
    obtain ⟨rfl, rfl⟩ := e
    obtain ⟨v, hv, r⟩ := er.at_ i _ hs
    exact ⟨v, hv, k F κ H v (.refl _ _) t r⟩
  · cases e
theorem tEv_cst {d : D} {v : V} (r : ∀ F, Rep W.K W.cA F v d) : ∀ σ H Q, tEv W (eCst d) σ H Q → tC v σ H Q := by
  intro σ H Q h
  obtain ⟨env, M, s, M', F, κ, e, t, er, k⟩ := h
  simp only [eCst, Option.some.injEq, Prod.mk.injEq] at e
  obtain ⟨rfl, rfl⟩ := e
  exact k F κ H v (.refl _ _) t (r F)
theorem de_int {i : Int} {j : Nat} : DE W N sc (.Constant (.int i) j pos) (eCst (.int i)) := fun X gd => PE.imp pe_int (tEv_cst fun F => .int i)
theorem de_bool {i : Bool} {j : Nat} : DE W N sc (.Constant (.bool i) j pos) (eCst (.bl i)) := fun X gd => PE.imp pe_bl (tEv_cst fun F => .bl i)
theorem de_none {j : Nat} : DE W N sc (.Constant .none j pos) (eCst .non) := fun X gd => PE.imp pe_non (tEv_cst fun F => .non)
theorem de_str {x : Str} {j : Nat} : DE W N sc (.Constant (.str x) j pos) (eCst (.str x)) := fun X gd => PE.imp pe_str (tEv_cst fun F => .str x)
theorem de_glob {x : Str} {d : D} {v : V} {u : Value} (hg : sc.names.lookup x = some .globalImplicit) (hm : W.mg x = some u) (r : RelV v u) (rd : ∀ F, Rep W.K W.cA F v d) (h1 : (x == ("__debug__" : Str)) = false) : DE W N sc (.Name x pos) (eCst d) :=
  fun X gd => PE.imp (pe_glob (v := v) (u := u) (by unfold Gl Env.kindOf; rw [gd.eS]; exact hg) (by rw [gd.mg]; exact hm) r h1) (tEv_cst rd)
theorem eBin_some {g : D → D → Option D} {env : Ev} {M M' : Ms} {s : S} (h : eBin g fa fb env M = some (s, M')) : ∃ sa M1 sb x y r, fa env M = some (sa, M1) ∧ fb env M1 = some (sb, M') ∧ view M' sa = some x ∧ view M' sb = some y ∧ g x y = some r ∧ s = .d r := by
  unfold eBin at h
  split at h
  rotate_left
  · cases h
  rename_i sa M1 e1
  split at h
  rotate_left
  · cases h
  rename_i sb M2 e2
  split at h
  rotate_left
  · cases h
  rename_i x e3
  split at h
  rotate_left
  · cases h
  rename_i y e4
  split at h
  rotate_left
  · cases h
  rename_i r e5
  simp only [Option.some.injEq, Prod.mk.injEq] at h
  obtain ⟨rfl, rfl⟩ := h
  exact ⟨sa, M1, sb, x, y, r, e1, e2, e3, e4, e5, rfl⟩
theorem tEv_bin {X : Cx} (gd : Gd W N sc X) {f : Value → Value → Sem Value} {g : D → D → Option D} (ho : OpS f g) : ∀ σ H Q, tEv W (eBin g fa fb) σ H Q → tOp (rStar X f) (tEv W fa) (tEv W fb) σ H Q := by
  intro σ H Q h
  obtain ⟨env, M, s, M', F, κ, e, t, er, k⟩ := h
  obtain ⟨sa, M1, sb, x, y, r, e1, e2, e3, e4, e5, rfl⟩ := eBin_some e
  refine ⟨env, M, sa, M1, F, κ, e1, t, er, fun F1 κ1 H1 va x1 t1 ra => ?_⟩
  refine ⟨env, M1, sb, M', F1, κ1, e2, t1, er.ext x1, fun F2 κ2 H2 vb x2 t2 rb => ?_⟩
  refine ho W N sc X gd F2 H2 va vb x y r t2.sub (t2.view (ra.ext x2) e3) (t2.view rb e4) e5 Q fun v F3 H3 n rv => ?_
  exact k F3 κ2 H3 v ((x1.trans x2).trans (.sub' n.fr)) (t2.new n) rv
theorem de_bin {op : Operator} {g : D → D → Option D} (ho : OpS (binaryOp op) g) (ha : DE W N sc a fa) (hb : DE W N sc b fb) : DE W N sc (.BinOp a op b pos) (eBin g fa fb) :=
  fun X gd => PE.imp (pe_op (OpR.star X _) (ha X gd) (hb X gd)) (tEv_bin gd ho)
theorem de_cmp {op : CmpOp} {g : D → D → Option D} (ho : OpS (compareOp op) g) (hm : behindInMarks op b = false) (ha : DE W N sc a fa) (hb : DE W N sc b fb) : DE W N sc (.Compare a [op] [b] pos) (eBin g fa fb) :=
  fun X gd => PE.imp (pe_cmpR (OpR.star X _) (ha X gd) (hb X gd) hm) (tEv_bin gd ho)
theorem eTest_some {f : EF} {env : Ev} {M M' : Ms} {k : Bool} (h : eTest f env M = some (k, M')) : f env M = some (.d (.bl k), M') := by
  unfold eTest at h
  split at h
  · rename_i e
    simp only [Option.some.injEq, Prod.mk.injEq] at h
    obtain ⟨rfl, rfl⟩ := h
    exact e
  · cases h
theorem tTv_test {f : EF} : ∀ σ H Q, tTv W (eTest f) σ H Q → tEv W f σ H (fun x H' => ∃ k, x = .bl k ∧ Q k H') := by
  intro σ H Q h
  obtain ⟨env, M, k0, M', F, κ, e, t, er, k⟩ := h
  refine ⟨env, M, _, M', F, κ, eTest_some e, t, er, fun F1 κ1 H1 v x1 t1 r => ?_⟩
  have r : Rep W.K W.cA F1 v (.bl k0) := r
  cases r
  exact ⟨k0, rfl, k F1 κ1 H1 x1 t1⟩
theorem dt_cmp {op : CmpOp} {g : D → D → Option D} (ho : OpS (compareOp op) g) (hm : behindInMarks op b = false) (ha : DE W N sc a fa) (hb : DE W N sc b fb) : DT W N sc (.Compare a [op] [b] pos) (eTest (eBin g fa fb)) := by
  intro X gd
  refine PT.imp (pt_cmpR (OpR.star X _) (ha X gd) (hb X gd) hm) fun σ H Q h => ?_
  exact tEv_bin gd ho σ H _ (tTv_test σ H Q h)
theorem dt_val (he : ∀ env whole, isTrue a env whole = (do let v ← whole; standAt a.pos; holding [v] (truthy v))) (ha : DE W N sc a fa) : DT W N sc a (eTest fa) :=
  fun X gd => PT.imp (pt_val (ha X gd) (he X.env)) fun σ H Q h => tTv_test σ H Q h
theorem de_un {op : UnaryOp} {g : D → Option D} (ho : UnS (unaryOp op) g) (ha : DE W N sc a fa) : DE W N sc (.UnaryOp op a pos) (eUn g fa) := by
  intro X gd
  refine PE.imp (pe_un (UnR.star X _) (ha X gd)) fun σ H Q h => ?_
  obtain ⟨env, M, s, M', F, κ, e, t, er, k⟩ := h
  unfold eUn at e
  split at e
  rotate_left
  · cases e
  rename_i sa M1 e1
  split at e
  rotate_left
  · cases e
  rename_i x e3
  split at e
  rotate_left
  · cases e
  rename_i r e5
  simp only [Option.some.injEq, Prod.mk.injEq] at e
  obtain ⟨rfl, rfl⟩ := e
  refine ⟨env, M, sa, M1, F, κ, e1, t, er, fun F1 κ1 H1 va x1 t1 ra => ?_⟩
  refine ho W N sc X gd F1 H1 va x r t1.sub (t1.view ra e3) e5 Q fun v F3 H3 n rv => ?_
  exact k F3 κ1 H3 v (x1.trans (.sub' n.fr)) (t1.new n) rv
/-! ### and, or, not, if -/
theorem dw_and1 {f : TF} (h : DT W N sc a f) : ∀ X, Gd W N sc X → PW X (.BoolOp .And [a] pos) (tTv W f) := fun X gd => pw_and1 (h X gd)
theorem dw_or1 {f : TF} (h : DT W N sc a f) : ∀ X, Gd W N sc X → PW X (.BoolOp .Or [a] pos) (tTv W f) := fun X gd => pw_or1 (h X gd)
theorem PW.imp {X : Cx} {e : Expr} {t t' : TT} (h : PW X e t) (i : ∀ σ H Q, t' σ H Q → t σ H Q) : PW X e t' := ⟨fun wh pins s σ H Q I hw => h.run wh pins s σ H Q I (i σ H Q hw)⟩
theorem dw_and {f g : TF} {rest : List Expr} (ha : DT W N sc a f) (hb : ∀ X, Gd W N sc X → PW X (.BoolOp .And (b :: rest) pos) (tTv W g)) : ∀ X, Gd W N sc X → PW X (.BoolOp .And (a :: b :: rest) pos) (tTv W (tAnd_ f g)) := by
  intro X gd
  refine PW.imp (pw_and (ha X gd) (hb X gd)) fun σ H Q h => ?_
  obtain ⟨env, M, k0, M', F, κ, e, t, er, k⟩ := h
  unfold tAnd_ at e
  cases e1 : f env M with
  | none => simp [e1] at e
  | some p =>
    obtain ⟨c, M1⟩ := p
    refine ⟨env, M, c, M1, F, κ, e1, t, er, fun F1 κ1 H1 x1 t1 => ?_⟩
    cases c with
    | true =>
      simp only [e1] at e
      exact iteT ⟨env, M1, k0, M', F1, κ1, e, t1, er.ext x1, fun F2 κ2 H2 x2 => k F2 κ2 H2 (x1.trans x2)⟩
    | false =>
      simp only [e1, Option.some.injEq, Prod.mk.injEq] at e
      obtain ⟨rfl, rfl⟩ := e
      exact iteF (k F1 κ1 H1 x1 t1)
theorem dw_or {f g : TF} {rest : List Expr} (ha : DT W N sc a f) (hb : ∀ X, Gd W N sc X → PW X (.BoolOp .Or (b :: rest) pos) (tTv W g)) : ∀ X, Gd W N sc X → PW X (.BoolOp .Or (a :: b :: rest) pos) (tTv W (tOr_ f g)) := by
  intro X gd
  refine PW.imp (pw_or (ha X gd) (hb X gd)) fun σ H Q h => ?_
  obtain ⟨env, M, k0, M', F, κ, e, t, er, k⟩ := h
  unfold tOr_ at e
  cases e1 : f env M with
  | none => simp [e1] at e
  | some p =>
    obtain ⟨c, M1⟩ := p
    refine ⟨env, M, c, M1, F, κ, e1, t, er, fun F1 κ1 H1 x1 t1 => ?_⟩
    cases c with
    | false =>
      simp only [e1] at e
      exact iteF ⟨env, M1, k0, M', F1, κ1, e, t1, er.ext x1, fun F2 κ2 H2 x2 => k F2 κ2 H2 (x1.trans x2)⟩
    | true =>
      simp only [e1, Option.some.injEq, Prod.mk.injEq] at e
      obtain ⟨rfl, rfl⟩ := e
      exact iteT (k F1 κ1 H1 x1 t1)
theorem dt_not {f : TF} (ha : DT W N sc a f) : DT W N sc (.UnaryOp .Not a pos) (tNot_ f) := by
  intro X gd
  refine PT.imp (pt_not (ha X gd)) fun σ H Q h => ?_
  obtain ⟨env, M, k0, M', F, κ, e, t, er, k⟩ := h
  unfold tNot_ at e
  split at e
  rotate_left
  · cases e
  rename_i b M1 e1
  simp only [Option.some.injEq, Prod.mk.injEq] at e
  obtain ⟨rfl, rfl⟩ := e
  exact ⟨env, M, b, M1, F, κ, e1, t, er, fun F1 κ1 H1 x1 t1 => k F1 κ1 H1 x1 t1⟩
theorem de_one {op : BoolOp} (h : DE W N sc a fa) : DE W N sc (.BoolOp op [a] pos) fa := fun X gd => pe_one (h X gd)
theorem de_and {rest : List Expr} (ha : DE W N sc a fa) (hb : DE W N sc (.BoolOp .And (b :: rest) pos) fb) : DE W N sc (.BoolOp .And (a :: b :: rest) pos) (eAnd fa fb) := by
  intro X gd
  refine PE.imp (pe_and (ha X gd) (hb X gd)) fun σ H Q h => ?_
  obtain ⟨env, M, s, M', F, κ, e, t, er, k⟩ := h
  unfold eAnd at e
  split at e
  · rename_i M1 e1
    refine ⟨env, M, _, M1, F, κ, e1, t, er, fun F1 κ1 H1 v x1 t1 r => ?_⟩
    have r : Rep W.K W.cA F1 v (.bl true) := r
    cases r
    exact ⟨true, rfl, iteT ⟨env, M1, s, M', F1, κ1, e, t1, er.ext x1, fun F2 κ2 H2 v x2 => k F2 κ2 H2 v (x1.trans x2)⟩⟩
  · rename_i M1 e1
    simp only [Option.some.injEq, Prod.mk.injEq] at e
    obtain ⟨rfl, rfl⟩ := e
    refine ⟨env, M, _, M1, F, κ, e1, t, er, fun F1 κ1 H1 v x1 t1 r => ?_⟩
    have r : Rep W.K W.cA F1 v (.bl false) := r
    cases r
    exact ⟨false, rfl, iteF (k F1 κ1 H1 _ x1 t1 (show Rep W.K W.cA F1 (.bl false) (.bl false) from .bl false))⟩
  · cases e
theorem de_or {rest : List Expr} (ha : DE W N sc a fa) (hb : DE W N sc (.BoolOp .Or (b :: rest) pos) fb) : DE W N sc (.BoolOp .Or (a :: b :: rest) pos) (eOr fa fb) := by
  intro X gd
  refine PE.imp (pe_or (ha X gd) (hb X gd)) fun σ H Q h => ?_
  obtain ⟨env, M, s, M', F, κ, e, t, er, k⟩ := h
  unfold eOr at e
  split at e
  · rename_i M1 e1
    simp only [Option.some.injEq, Prod.mk.injEq] at e
    obtain ⟨rfl, rfl⟩ := e
    refine ⟨env, M, _, M1, F, κ, e1, t, er, fun F1 κ1 H1 v x1 t1 r => ?_⟩
    have r : Rep W.K W.cA F1 v (.bl true) := r
    cases r
    exact ⟨true, rfl, iteT (k F1 κ1 H1 _ x1 t1 (show Rep W.K W.cA F1 (.bl true) (.bl true) from .bl true))⟩
  · rename_i M1 e1
    refine ⟨env, M, _, M1, F, κ, e1, t, er, fun F1 κ1 H1 v x1 t1 r => ?_⟩
    have r : Rep W.K W.cA F1 v (.bl false) := r
    cases r
    exact ⟨false, rfl, iteF ⟨env, M1, s, M', F1, κ1, e, t1, er.ext x1, fun F2 κ2 H2 v x2 => k F2 κ2 H2 v (x1.trans x2)⟩⟩
  · cases e
theorem de_not (ha : DE W N sc a fa) : DE W N sc (.UnaryOp .Not a pos) (eOf (tNot_ (eTest fa))) := by
  intro X gd
  refine PE.imp (pe_not (ha X gd)) fun σ H Q h => ?_
  obtain ⟨env, M, s, M', F, κ, e, t, er, k⟩ := h
  unfold eOf tNot_ at e
  cases e1 : eTest fa env M with
  | none => simp [e1] at e
  | some p =>
    obtain ⟨b, M1⟩ := p
    simp only [e1, Option.some.injEq, Prod.mk.injEq] at e
    obtain ⟨rfl, rfl⟩ := e
    refine ⟨env, M, _, M1, F, κ, eTest_some e1, t, er, fun F1 κ1 H1 v x1 t1 r => ?_⟩
    have r : Rep W.K W.cA F1 v (.bl b) := r
    cases r
    exact ⟨b, rfl, k F1 κ1 H1 _ x1 t1 (show Rep W.K W.cA F1 (.bl (!b)) (.bl (!b)) from .bl _)⟩
theorem de_if {f : TF} (hc : DT W N sc c f) (ha : DE W N sc a fa) (hb : DE W N sc b fb) : DE W N sc (.IfExp c a b pos) (eIf f fa fb) := by
  intro X gd
  refine PE.imp (pe_ifExp (hc X gd) (ha X gd) (hb X gd)) fun σ H Q h => ?_
  obtain ⟨env, M, s, M', F, κ, e, t, er, k⟩ := h
  unfold eIf at e
  split at e
  · rename_i M1 e1
    exact ⟨env, M, _, M1, F, κ, e1, t, er, fun F1 κ1 H1 x1 t1 => iteT ⟨env, M1, s, M', F1, κ1, e, t1, er.ext x1, fun F2 κ2 H2 v x2 => k F2 κ2 H2 v (x1.trans x2)⟩⟩
  · rename_i M1 e1
    exact ⟨env, M, _, M1, F, κ, e1, t, er, fun F1 κ1 H1 x1 t1 => iteF ⟨env, M1, s, M', F1, κ1, e, t1, er.ext x1, fun F2 κ2 H2 v x2 => k F2 κ2 H2 v (x1.trans x2)⟩⟩
  · cases e
/-! ### lists of expressions -/
def notStar : Expr → Bool
  | .Starred _ _ => false
  | _ => true
theorem star_cons {e : Expr} (h : notStar e = true) (es : List Expr) (env : Env) : starEach (e :: es) env = (false, eval e env) :: starEach es env := by
  cases e <;> first | rfl | cases h
theorem da_nil : DA W N sc [] aNil := by
  intro X gd
  refine PA.imp pa_nil fun σ H Q h => ?_
  obtain ⟨env, M, ss, M', F, κ, e, t, er, k⟩ := h
  simp only [aNil, Option.some.injEq, Prod.mk.injEq] at e
  obtain ⟨rfl, rfl⟩ := e
  exact k F κ H [] (.refl _ _) t .nil
theorem da_cons (hs : notStar a = true) (ha : DE W N sc a fa) (hr : DA W N sc es ga) : DA W N sc (a :: es) (aCons fa ga) := by
  intro X gd
  refine PA.imp (pa_cons (ha X gd) (hr X gd) (star_cons hs _ _)) fun σ H Q h => ?_
  obtain ⟨env, M, ss, M', F, κ, e, t, er, k⟩ := h
  unfold aCons at e
  split at e
  rotate_left
  · cases e
  rename_i s M1 e1
  split at e
  rotate_left
  · cases e
  rename_i ss' M2 e2
  simp only [Option.some.injEq, Prod.mk.injEq] at e
  obtain ⟨rfl, rfl⟩ := e
  refine ⟨env, M, s, M1, F, κ, e1, t, er, fun F1 κ1 H1 v x1 t1 r => ?_⟩
  refine ⟨env, M1, ss', M2, F1, κ1, e2, t1, er.ext x1, fun F2 κ2 H2 vs x2 t2 rs => ?_⟩
  exact k F2 κ2 H2 (v :: vs) (x1.trans x2) t2 (.cons (r.ext x2) rs)
theorem VRep.items {K : PySem.W.Frag} {cA : Str → Option Addr} {F H : Hp} {v : V} {d : D} {ds : List D} (hs : SubH F H) (h : VRep K cA F H v d) (e : itemsOf d = some ds) : ∃ a vs, v = .ref a ∧ (SqT K H a vs ∨ SqL K H a vs) ∧ Reps K cA F vs ds := by
  cases h with
  | rep r =>
    cases r with
    | tup q r => cases e; exact ⟨_, _, rfl, .inl (hs.sqT q), r⟩
    | lst q r => cases e; exact ⟨_, _, rfl, .inr (.inl (.inl (hs.lst q))), r⟩
    | scr q => cases e; exact ⟨_, _, rfl, .inr (hs.sqL q), .ints⟩
    | _ => cases e
  | lst q r => cases e; exact ⟨_, _, rfl, .inr (.inl (.inl q)), r⟩
  | dct q _ _ => cases e
  | obj _ q _ _ _ => cases e
theorem da_star {p : Pos} (ha : DE W N sc a fa) (hr : DA W N sc es ga) : DA W N sc (.Starred a p :: es) (aStar fa ga) := by
  intro X gd
  refine PA.imp (StX.pa_star (ha X gd) (hr X gd)) fun σ H Q h => ?_
  obtain ⟨env, M, ss, M', F, κ, e, t, er, k⟩ := h
  unfold aStar at e
  split at e
  rotate_left
  · cases e
  rename_i s M1 e1
  split at e
  rotate_left
  · cases e
  rename_i d e2
  split at e
  rotate_left
  · cases e
  rename_i xs e3
  split at e
  rotate_left
  · cases e
  rename_i ss' M2 e4
  simp only [Option.some.injEq, Prod.mk.injEq] at e
  obtain ⟨rfl, rfl⟩ := e
  refine ⟨env, M, s, M1, F, κ, e1, t, er, fun F1 κ1 H1 v x1 t1 r => ?_⟩
  obtain ⟨p, vs, rfl, hq, rs⟩ := (t1.view r e2).items t1.sub e3
  refine ⟨p, vs, rfl, by rw [gd.K]; exact hq, ?_⟩
  refine ⟨env, M1, ss', M2, F1, κ1, e4, t1, er.ext x1, fun F2 κ2 H2 ws x2 t2 rw' => ?_⟩
  exact k F2 κ2 H2 (vs ++ ws) (x1.trans x2) t2 (SReps.append (SReps.of (rs.mono x2.sub)) rw')
theorem de_tup {j : Nat} (h : DA W N sc es ga) : DE W N sc (.Tuple es j pos) (eTup ga) := by
  intro X gd
  refine PE.imp (pe_tup (h X gd)) fun σ H Q h => ?_
  obtain ⟨env, M, s, M', F, κ, e, t, er, k⟩ := h
  unfold eTup at e
  split at e
  rotate_left
  · cases e
  rename_i ss M1 e1
  split at e
  rotate_left
  · cases e
  rename_i ds M2 e2
  split at e
  rotate_left
  · cases e
  rename_i hz
  simp only [Option.some.injEq, Prod.mk.injEq] at e
  obtain ⟨rfl, rfl⟩ := e
  refine ⟨env, M, ss, M1, F, κ, e1, t, er, fun F1 κ1 H1 vs x1 t1 rs => ?_⟩
  obtain ⟨F2, x2, t2, r2⟩ := t1.frzL rs e2
  refine ⟨by rw [r2.length]; exact hz, fun p hp => ?_⟩
  have n := New.one (o := .tup vs) t2.sub hp
  exact k _ κ1 _ (.ref p) ((x1.trans x2).trans (.sub' n.fr)) (t2.new n) (show Rep W.K W.cA _ (.ref p) (.tup ds) from .tup (.inl (.inl upd_same)) (r2.mono n.fr))
theorem de_lst (h : DA W N sc es ga) : DE W N sc (.List es pos) (eLst ga) := by
  intro X gd
  refine PE.imp (pe_lst (h X gd)) fun σ H Q h => ?_
  obtain ⟨env, M, s, M', F, κ, e, t, er, k⟩ := h
  unfold eLst at e
  split at e
  rotate_left
  · cases e
  rename_i ss M1 e1
  split at e
  rotate_left
  · cases e
  rename_i ds M2 e2
  split at e
  rotate_left
  · cases e
  rename_i hz
  simp only [Option.some.injEq, Prod.mk.injEq] at e
  obtain ⟨rfl, rfl⟩ := e
  refine ⟨env, M, ss, M1, F, κ, e1, t, er, fun F1 κ1 H1 vs x1 t1 rs => ?_⟩
  obtain ⟨F2, x2, t2, r2⟩ := t1.frzL rs e2
  refine ⟨by rw [r2.length]; exact hz, fun p hp => ?_⟩
  have n := New.one (o := .lst vs) t2.sub hp
  exact k _ κ1 _ (.ref p) ((x1.trans x2).trans (.sub' n.fr)) (t2.new n) (show Rep W.K W.cA _ (.ref p) (.lst ds) from .lst upd_same (r2.mono n.fr))
end
end G
/-! Attributes, subscripts, slices, calls. -/
namespace G
open PySem L2
section
variable {W : Wd} {N : List Str} {sc : Scp} {a b c : Expr} {fa fb fc : EF} {es : List Expr} {ga : AF} {pos : Pos}
/-! ### attributes -/
def eAttr (x : Str) (fa : EF) : EF := fun env M => match fa env M with
  | some (s, M1) => match view M1 s with
    | some (.obj _ gs) => match gs.lookup x with
      | some d => some (.d d, M1)
      | none => none
    | _ => none
  | none => none
theorem lookup_rel {K : PySem.W.Frag} {cA : Str → Option Addr} {F : Hp} : ∀ {fs : List (Str × V)} {gs : List (Str × D)} {x : Str} {d : D}, fs.map (·.1) = gs.map (·.1) → Reps K cA F (fs.map (·.2)) (gs.map (·.2)) → gs.lookup x = some d → ∃ v, fs.lookup x = some v ∧ Rep K cA F v d
  | [], [], x, d, _, _, h => by simp at h
  | [], _ :: _, x, d, e, _, h => by simp at e
  | _ :: _, [], x, d, e, _, h => by simp at e
  | (f, v) :: fs, (g, d') :: gs, x, d, e, r, h => by
    simp only [List.map_cons, List.cons.injEq] at e
    obtain ⟨rfl, e⟩ := e
    cases r with
    | cons r rr =>
      rw [List.lookup_cons] at h ⊢
      cases hb : x == f with
      | true => simp only [hb, Option.some.injEq] at h; subst h; exact ⟨v, rfl, r⟩
      | false => simp only [hb] at h; exact lookup_rel e rr h
theorem lookup_mem : ∀ {gs : List (Str × D)} {x : Str} {d : D}, gs.lookup x = some d → x ∈ gs.map (·.1)
  | [], x, d, h => by simp at h
  | (g, d') :: gs, x, d, h => by
    rw [List.lookup_cons] at h
    cases hb : x == g with
    | true => rw [eq_of_beq hb]; exact List.mem_cons_self
    | false => simp only [hb] at h; exact List.mem_cons_of_mem _ (lookup_mem h)
theorem VRep.obj_ {K : PySem.W.Frag} {cA : Str → Option Addr} {F H : Hp} {v : V} {c : Str} {gs : List (Str × D)} (hs : SubH F H) (h : VRep K cA F H v (.obj c gs)) :
    ∃ a C dx fs, v = .ref a ∧ cA c = some C ∧ H a = some (.ins C dx fs) ∧ fs.map (·.1) = gs.map (·.1) ∧ Reps K cA F (fs.map (·.2)) (gs.map (·.2)) ∧ ∀ f ∈ gs.map (·.1), NoAttr K C f := by
  cases h with
  | rep r => cases r with | obj c a e r n => exact ⟨_, _, _, _, rfl, c, hs.ins a, e, r, n⟩
  | obj c a e r n => exact ⟨_, _, _, _, rfl, c, a, e, r, n⟩
def notSuper : Expr → Bool
  | .Call _ [] [] _ => false
  | _ => true
theorem attr_base {o : Expr} (h : notSuper o = true) (x : Str) (env : Env) : attributeBase o x env (eval o env) = eval o env := by
  unfold attributeBase
  split
  · cases h
  · rfl
theorem de_attr {x : Str} (hb : notSuper a = true) (ha : DE W N sc a fa) : DE W N sc (.Attribute a x pos) (eAttr x fa) := by
  intro X gd
  refine PE.imp (pe_fld (f := x) (ha X gd) (attr_base hb x X.env)) fun σ H Q h => ?_
  obtain ⟨env, M, s, M', F, κ, e, t, er, k⟩ := h
  unfold eAttr at e
  split at e
  rotate_left
  · cases e
  rename_i s' M1 e1
  split at e
  rotate_left
  · cases e
  rename_i c gs e2
  split at e
  rotate_left
  · cases e
  rename_i d e3
  simp only [Option.some.injEq, Prod.mk.injEq] at e
  obtain ⟨rfl, rfl⟩ := e
  refine ⟨env, M, s', M1, F, κ, e1, t, er, fun F1 κ1 H1 v x1 t1 r => ?_⟩
  obtain ⟨p, C, dx, fs, rfl, hc, hp, en, rs, na⟩ := (t1.view r e2).obj_ t1.sub
  obtain ⟨w, hw, rw'⟩ := lookup_rel en rs e3
  rw [gd.K]
  exact ⟨p, C, dx, fs, w, rfl, hp, W.cls c C hc, na x (lookup_mem e3), hw, k F1 κ1 H1 w x1 t1 rw'⟩
/-! ### subscripts -/
def notSl : Expr → Bool
  | .Slice _ _ _ _ => false
  | _ => true
theorem plain_ix {b : Expr} (h : notSl b = true) : PlainIx b := by
  intro o i
  cases b <;> first | rfl | cases h
def valD {κ : Type} [DecidableEq κ] (kvs : List (κ × D)) (k : κ) : Option D := (kvs.find? fun kv => decide (kv.1 = k)).map (·.2)
def putD {κ : Type} [DecidableEq κ] (kvs : List (κ × D)) (k : κ) (v : D) : List (κ × D) :=
  if (kvs.any fun kv => decide (kv.1 = k)) = true then kvs.map (fun kv => if kv.1 = k then (kv.1, v) else kv) else kvs ++ [(k, v)]
/-- a key of a dict -/
def keyD : D → Option Key
  | .int i => some (.inl i)
  | .str x => some (.inr x)
  | _ => none
theorem keyD_rep {K : PySem.W.Frag} {cA : Str → Option Addr} {F H : Hp} {v : V} {d : D} {k : Key} (h : VRep K cA F H v d) (e : keyD d = some k) : v = kV k := by
  cases d with
  | int i => cases e; cases h with | rep r => cases r; rfl
  | str i => cases e; cases h with | rep r => cases r; rfl
  | _ => cases e
theorem val_rep {K : PySem.W.Frag} {cA : Str → Option Addr} {F : Hp} {κ : Type} [DecidableEq κ] {k : κ} : ∀ {kvs : List (κ × V)} {kds : List (κ × D)}, kvs.map (·.1) = kds.map (·.1) → Reps K cA F (kvs.map (·.2)) (kds.map (·.2)) →
    (∀ d, valD kds k = some d → ∃ v, valV kvs k = some v ∧ Rep K cA F v d) ∧ (valD kds k = none → valV kvs k = none)
  | [], [], _, _ => ⟨fun d h => (nomatch (show (none : Option D) = some d from h)), fun _ => rfl⟩
  | [], _ :: _, e, _ => by simp at e
  | _ :: _, [], e, _ => by simp at e
  | (f, v) :: fs, (g, d') :: gs, e, r => by
    simp only [List.map_cons, List.cons.injEq] at e
    obtain ⟨rfl, e⟩ := e
    cases r with
    | cons r rr =>
      obtain ⟨h1, h2⟩ := val_rep (k := k) e rr
      by_cases hk : f = k
      · constructor
        · intro d hd
          simp only [valD, List.find?_cons, hk, decide_true, Option.map_some, Option.some.injEq] at hd
          subst hd
          exact ⟨v, valV_pos hk, r⟩
        · intro hd
          simp [valD, List.find?_cons, hk] at hd
      · have e1 : valD ((f, d') :: gs) k = valD gs k := by simp [valD, List.find?_cons, hk]
        rw [e1, valV_neg hk]
        exact ⟨h1, h2⟩
theorem put_rep {K : PySem.W.Frag} {cA : Str → Option Addr} {F : Hp} {κ : Type} [DecidableEq κ] {k : κ} {v : V} {d : D} {kvs : List (κ × V)} {kds : List (κ × D)} (e : kvs.map (·.1) = kds.map (·.1)) (r : Reps K cA F (kvs.map (·.2)) (kds.map (·.2))) (q : Rep K cA F v d) :
    (putK kvs k v).map (·.1) = (putD kds k d).map (·.1) ∧ Reps K cA F ((putK kvs k v).map (·.2)) ((putD kds k d).map (·.2)) := by
  have ha : (kvs.any fun kv => decide (kv.1 = k)) = (kds.any fun kv => decide (kv.1 = k)) := by
    have h1 : (kvs.any fun kv => decide (kv.1 = k)) = (kvs.map (·.1)).any fun x => decide (x = k) := by rw [List.any_map]; rfl
    have h2 : (kds.any fun kv => decide (kv.1 = k)) = (kds.map (·.1)).any fun x => decide (x = k) := by rw [List.any_map]; rfl
    rw [h1, h2, e]
  unfold putK putD
  rw [ha]
  split
  · rename_i hany
    clear ha hany
    induction kvs generalizing kds with
    | nil => cases kds with
      | nil => exact ⟨rfl, .nil⟩
      | cons _ _ => simp at e
    | cons p kvs ih => cases kds with
      | nil => simp at e
      | cons p' kds =>
        obtain ⟨f, x⟩ := p
        obtain ⟨g, y⟩ := p'
        simp only [List.map_cons, List.cons.injEq] at e
        obtain ⟨rfl, e⟩ := e
        cases r with
        | cons r rr =>
          obtain ⟨i1, i2⟩ := ih e rr
          by_cases hk : f = k
          · simp only [List.map_cons, hk, if_true]
            exact ⟨by rw [i1], .cons q i2⟩
          · simp only [List.map_cons, hk, if_false]
            exact ⟨by rw [i1], .cons r i2⟩
  · simp only [List.map_append, List.map_cons, List.map_nil]
    exact ⟨by rw [e], r.append (.cons q .nil)⟩
/-- d[i] -/
def dIdx : D → D → Option D
  | .lst ds, .int i => atI ds i
  | .tup ds, .int i => atI ds i
  | .scr ns, .int i => (atI ns i).map D.int
  | .str z, .int i => if z.length ≤ sizeLine then (atI z.cps.toList i).map fun c => .str ⟨#[c]⟩ else none
  | .dct kds, y => match keyD y with
    | some k => valD kds k
    | none => none
  | _, _ => none
theorem atI_rep {K : PySem.W.Frag} {cA : Str → Option Addr} {F : Hp} {vs : List V} {ds : List D} {i : Int} {d : D} (r : Reps K cA F vs ds) (h : atI ds i = some d) : ∃ v, atI vs i = some v ∧ Rep K cA F v d := by
  unfold atI at h ⊢
  rw [r.length]
  cases e : ixN ds.length i with
  | none => rw [e] at h; cases h
  | some j =>
    rw [e] at h
    exact r.get (d := d) h
theorem ix_dict {X : Cx} (hu : X.A.units + 1 < cLine) : IxR X (fun x y H Q => ∃ a v, x = .ref a ∧ DGet H a y (some v) ∧ Q v H) := by
  intro value slice pins s σ H x y v u Q I rx ry h hs
  obtain ⟨a, z, rfl, g, q⟩ := h
  cases rx
  exact PyProof.Rows.tail_any (dict_typeIs I g) PySem.F.slot_dict_getitem.lookup (d_getItem hu I g ry fun w' s3 I3 rw' => ⟨z, H, I3, rw', q⟩) hs
theorem Gd.hu {X : Cx} (gd : Gd W N sc X) : X.A.units + 1 < cLine := hu_of gd.hr
theorem VRep.dct0 {K : PySem.W.Frag} {cA : Str → Option Addr} {F H : Hp} {v : V} {kds : List (Key × D)} (hs : SubH F H) (h : VRep K cA F H v (.dct kds)) : ∃ a kvs, v = .ref a ∧ Rd H a (.dK kvs) ∧ kvs.map (·.1) = kds.map (·.1) ∧ Reps K cA F (kvs.map (·.2)) (kds.map (·.2)) := by
  cases h with
  | rep r => cases r with | dct q e r => exact ⟨_, _, rfl, hs.rd q, e, r⟩
  | dct q e r => exact ⟨_, _, rfl, .inl q, e, r⟩
theorem tOp_ix {X : Cx} (gd : Gd W N sc X) : ∀ σ H Q, tEv W (eBin dIdx fa fb) σ H Q → tOp (ixStar X) (tEv W fa) (tEv W fb) σ H Q := by
  intro σ H Q h
  obtain ⟨env, M, s, M', F, κ, e, t, er, k⟩ := h
  obtain ⟨sa, M1, sb, x, y, r, e1, e2, e3, e4, e5, rfl⟩ := eBin_some e
  refine ⟨env, M, sa, M1, F, κ, e1, t, er, fun F1 κ1 H1 va x1 t1 ra => ?_⟩
  refine ⟨env, M1, sb, M', F1, κ1, e2, t1, er.ext x1, fun F2 κ2 H2 vb x2 t2 rb => ?_⟩
  have vx := t2.view (ra.ext x2) e3
  have vy := t2.view rb e4
  have fin : ∀ w, Rep W.K W.cA F2 w r → Q w H2 := fun w rw' => k F2 κ2 H2 w (x1.trans x2) t2 rw'
  have dcase : ∀ kds, x = .dct kds → ixStar X va vb H2 Q := fun kds e => by
    subst e
    have e5 : (match keyD y with | some k => valD kds k | none => none) = some r := by
      cases y <;> exact e5
    split at e5
    rotate_left
    · cases e5
    rename_i kk ek
    obtain ⟨p, kvs, rfl, hq, en, rs⟩ := vx.dct0 t2.sub
    obtain ⟨w, hw, rw'⟩ := (val_rep en rs).1 r e5
    rw [keyD_rep vy ek]
    exact ⟨_, ix_dict gd.hu, p, w, rfl, by rw [← hw]; exact .inl ⟨kvs, kk, hq, rfl, rfl⟩, fin w rw'⟩
  have yint : ∀ i, y = .int i → vb = .int i := fun i e => by
    subst e
    cases vy with | rep q => cases q; rfl
  cases y with
  | int i =>
    have hy := yint i rfl
    subst hy
    cases x with
    | lst ds =>
      obtain ⟨p, vs, rfl, hq, rs⟩ := vx.items t2.sub rfl
      obtain ⟨w, hw, rw'⟩ := atI_rep rs (show atI ds i = some r from e5)
      rcases hq with hq | hq
      · exact ⟨_, ix_tup, p, vs, i, w, rfl, rfl, by rw [gd.K]; exact hq, hw, fin w rw'⟩
      · exact ⟨_, ix_list, p, vs, i, w, rfl, rfl, by rw [gd.K]; exact hq, hw, fin w rw'⟩
    | tup ds =>
      obtain ⟨p, vs, rfl, hq, rs⟩ := vx.items t2.sub rfl
      obtain ⟨w, hw, rw'⟩ := atI_rep rs (show atI ds i = some r from e5)
      rcases hq with hq | hq
      · exact ⟨_, ix_tup, p, vs, i, w, rfl, rfl, by rw [gd.K]; exact hq, hw, fin w rw'⟩
      · exact ⟨_, ix_list, p, vs, i, w, rfl, rfl, by rw [gd.K]; exact hq, hw, fin w rw'⟩
    | scr ns =>
      obtain ⟨p, vs, rfl, hq, rs⟩ := vx.items t2.sub rfl
      have e5 : (atI ns i).map D.int = some r := e5
      have e6 : atI (ns.map D.int) i = some r := by
        unfold atI at e5 ⊢
        rw [List.length_map]
        cases e : ixN ns.length i with
        | none => rw [e] at e5; cases e5
        | some j =>
          rw [e] at e5
          show (ns.map D.int)[j]? = some r
          rw [List.getElem?_map]
          exact e5
      obtain ⟨w, hw, rw'⟩ := atI_rep rs e6
      rcases hq with hq | hq
      · exact ⟨_, ix_tup, p, vs, i, w, rfl, rfl, by rw [gd.K]; exact hq, hw, fin w rw'⟩
      · exact ⟨_, ix_list, p, vs, i, w, rfl, rfl, by rw [gd.K]; exact hq, hw, fin w rw'⟩
    | str z =>
      have hx : va = .str z := by cases vx with | rep q => cases q; rfl
      subst hx
      have e5 : (if z.length ≤ sizeLine then (atI z.cps.toList i).map fun c => (D.str ⟨#[c]⟩) else none) = some r := e5
      split at e5
      rotate_left
      · cases e5
      rename_i hz
      cases e6 : atI z.cps.toList i with
      | none => rw [e6] at e5; cases e5
      | some c =>
        rw [e6] at e5
        have e7 : D.str ⟨#[c]⟩ = r := Option.some.inj e5
        subst e7
        exact ⟨_, ix_str, z, i, c, rfl, rfl, hz, e6, fin _ (.str _)⟩
    | dct kds => exact dcase kds rfl
    | _ => cases e5
  | _ =>
    cases x with
    | dct kds => exact dcase kds rfl
    | _ => cases e5
theorem de_idx (hs : notSl b = true) (ha : DE W N sc a fa) (hb : DE W N sc b fb) : DE W N sc (.Subscript a b pos) (eBin dIdx fa fb) :=
  fun X gd => PE.imp (pe_ix (IxR.star X) (ha X gd) (hb X gd) (plain_ix hs)) (tOp_ix gd)
/-! ### slices -/
abbrev OF := Ev → Ms → Option (Option Int × Ms)
def oNone : OF := fun _ M => some (none, M)
def oSome (f : EF) : OF := fun env M => match f env M with
  | some (s, M1) => match view M1 s with
    | some (.int i) => some (some i, M1)
    | _ => none
  | none => none
def tOv (W : Wd) (f : OF) : TO := fun σ H Q => ∃ env M o M' F κ, f env M = some (o, M') ∧ Stt W.K W.cA F H κ M ∧ EnvR W.K W.cA F κ σ env ∧
  ∀ F' κ' H', Ext F κ F' κ' → Stt W.K W.cA F' H' κ' M' → Q o H'
def DO (W : Wd) (N : List Str) (sc : Scp) (e : Option Expr) (f : OF) : Prop := ∀ X, Gd W N sc X → PO X e (tOv W f)
theorem PO.imp {X : Cx} {e : Option Expr} {t t' : TO} (h : PO X e t) (i : ∀ σ H Q, t' σ H Q → t σ H Q) : PO X e t' := ⟨fun pins s σ H Q I hw => h.run pins s σ H Q I (i σ H Q hw)⟩
theorem do_none : DO W N sc none oNone := by
  intro X gd
  refine PO.imp po_none fun σ H Q h => ?_
  obtain ⟨env, M, o, M', F, κ, e, t, er, k⟩ := h
  simp only [oNone, Option.some.injEq, Prod.mk.injEq] at e
  obtain ⟨rfl, rfl⟩ := e
  exact k F κ H (.refl _ _) t
theorem do_some (ha : DE W N sc a fa) : DO W N sc (some a) (oSome fa) := by
  intro X gd
  refine PO.imp (po_some (ha X gd)) fun σ H Q h => ?_
  obtain ⟨env, M, o, M', F, κ, e, t, er, k⟩ := h
  unfold oSome at e
  split at e
  rotate_left
  · cases e
  rename_i s M1 e1
  split at e
  rotate_left
  · cases e
  rename_i i e2
  simp only [Option.some.injEq, Prod.mk.injEq] at e
  obtain ⟨rfl, rfl⟩ := e
  refine ⟨env, M, s, M1, F, κ, e1, t, er, fun F1 κ1 H1 v x1 t1 r => ?_⟩
  have q := t1.view r e2
  cases q with | rep q => cases q; exact ⟨i, rfl, k F1 κ1 H1 x1 t1⟩
def cutD (xs : List D) (lo hi : Option Int) : List D := (xs.drop (HT.sIx xs.length 0 lo)).take (HT.sIx xs.length xs.length hi - HT.sIx xs.length 0 lo)
theorem cut_rep {K : PySem.W.Frag} {cA : Str → Option Addr} {F : Hp} {vs : List V} {ds : List D} (lo hi : Option Int) (r : Reps K cA F vs ds) : Reps K cA F (cutV vs lo hi) (cutD ds lo hi) := by
  unfold cutV cutD
  rw [r.length]
  exact (r.drop _).take _
def dSlice : D → Option Int → Option Int → Option D
  | .lst ds, lo, hi => some (.lst (cutD ds lo hi))
  | .tup ds, lo, hi => some (.tup (cutD ds lo hi))
  | _, _, _ => none
def eSlice (fa : EF) (fl fh : OF) : EF := fun env M => match fa env M with
  | some (s, M1) => match fl env M1 with
    | some (lo, M2) => match fh env M2 with
      | some (hi, M3) => match view M3 s with
        | some d => match dSlice d lo hi with
          | some r => some (.d r, M3)
          | none => none
        | none => none
      | none => none
    | none => none
  | none => none
end
end G
/-! Slices, calls of built-ins, of defs, of classes, of methods. -/
namespace G
open PySem L2
section
variable {K : PySem.W.Frag} {cA : Str → Option Addr} {F H : Hp} {v : V}
theorem VRep.lst_ {ds : List D} (hs : SubH F H) (h : VRep K cA F H v (.lst ds)) : ∃ a vs, v = .ref a ∧ H a = some (.lst vs) ∧ Reps K cA F vs ds := by
  cases h with
  | rep r => cases r with | lst q r => exact ⟨_, _, rfl, hs.lst q, r⟩
  | lst q r => exact ⟨_, _, rfl, q, r⟩
theorem VRep.tup_ {ds : List D} (hs : SubH F H) (h : VRep K cA F H v (.tup ds)) : ∃ a vs, v = .ref a ∧ SqT K H a vs ∧ Reps K cA F vs ds := by
  cases h with
  | rep r => cases r with | tup q r => exact ⟨_, _, rfl, hs.sqT q, r⟩
theorem VRep.tupF {ds : List D} (h : VRep K cA F H v (.tup ds)) : Rep K cA F v (.tup ds) := by
  cases h with
  | rep r => exact r
theorem VRep.scr_ {ns : List Int} (hs : SubH F H) (h : VRep K cA F H v (.scr ns)) : ∃ a, v = .ref a ∧ SqL K H a (ns.map V.int) := by
  cases h with
  | rep r => cases r with | scr q => exact ⟨_, rfl, hs.sqL q⟩
theorem VRep.int_ {i : Int} (h : VRep K cA F H v (.int i)) : v = .int i := by cases h with | rep r => cases r; rfl
theorem VRep.bl_ {i : Bool} (h : VRep K cA F H v (.bl i)) : v = .bl i := by cases h with | rep r => cases r; rfl
theorem VRep.str_ {i : Str} (h : VRep K cA F H v (.str i)) : v = .str i := by cases h with | rep r => cases r; rfl
theorem VRep.non_ (h : VRep K cA F H v .non) : v = .non := by cases h with | rep r => cases r; rfl
end
section
variable {W : Wd} {N : List Str} {sc : Scp} {a b c : Expr} {fa fb fc : EF} {es : List Expr} {ga : AF} {pos : Pos}
theorem de_slice {lo hi : Option Expr} {fl fh : OF} {p2 : Pos} (ha : DE W N sc a fa) (hl : DO W N sc lo fl) (hh : DO W N sc hi fh) : DE W N sc (.Subscript a (.Slice lo hi none p2) pos) (eSlice fa fl fh) := by
  intro X gd
  refine PE.imp (pe_slice (SlR.star X) (ha X gd) (hl X gd) (hh X gd)) fun σ H Q h => ?_
  obtain ⟨env, M, s, M', F, κ, e, t, er, k⟩ := h
  unfold eSlice at e
  split at e
  rotate_left
  · cases e
  rename_i sa M1 e1
  split at e
  rotate_left
  · cases e
  rename_i l M2 e2
  split at e
  rotate_left
  · cases e
  rename_i u M3 e3
  split at e
  rotate_left
  · cases e
  rename_i d e4
  split at e
  rotate_left
  · cases e
  rename_i r e5
  simp only [Option.some.injEq, Prod.mk.injEq] at e
  obtain ⟨rfl, rfl⟩ := e
  refine ⟨env, M, sa, M1, F, κ, e1, t, er, fun F1 κ1 H1 va x1 t1 ra => ?_⟩
  refine ⟨env, M1, l, M2, F1, κ1, e2, t1, er.ext x1, fun F2 κ2 H2 x2 t2 => ?_⟩
  refine ⟨env, M2, u, M3, F2, κ2, e3, t2, er.ext (x1.trans x2), fun F3 κ3 H3 x3 t3 => ?_⟩
  have vx := t3.view (ra.ext (x2.trans x3)) e4
  have xx := (x1.trans x2).trans x3
  cases d with
  | lst ds =>
    obtain ⟨p, vs, rfl, hq, rs⟩ := vx.lst_ t3.sub
    have e5 : D.lst (cutD ds l u) = r := Option.some.inj e5
    subst e5
    refine ⟨_, sl_list, p, vs, rfl, .of hq, fun p' hp => ?_⟩
    have n := New.one (o := .lst (cutV vs l u)) t3.sub hp
    exact k _ κ3 _ (.ref p') (xx.trans (.sub' n.fr)) (t3.new n) (show Rep W.K W.cA _ (.ref p') (.lst _) from .lst upd_same ((cut_rep l u rs).mono n.fr))
  | tup ds =>
    have rx := vx.tupF
    obtain ⟨p, vs, rfl, hq, rs⟩ := vx.tup_ t3.sub
    have e5 : D.tup (cutD ds l u) = r := Option.some.inj e5
    subst e5
    refine ⟨_, sl_tupA, p, vs, rfl, by rw [gd.K]; exact hq, fun hw => ?_, fun _ p' hp => ?_⟩
    · have hd : cutD ds l u = ds := by
        unfold cutD
        rw [← rs.length, hw.1, hw.2, List.drop_zero, Nat.sub_zero]
        exact List.take_of_length_le (by rw [rs.length]; exact Nat.le_refl _)
      rw [hd] at k
      exact k _ κ3 _ (.ref p) xx t3 rx
    · have n := New.one (o := .tup (cutV vs l u)) t3.sub hp
      exact k _ κ3 _ (.ref p') (xx.trans (.sub' n.fr)) (t3.new n) (show Rep W.K W.cA _ (.ref p') (.tup _) from .tup (.inl (.inl upd_same)) ((cut_rep l u rs).mono n.fr))
  | _ => cases e5
/-- xs[::-1] -/
def dRev : D → Option D
  | .lst ds => some (.lst ds.reverse)
  | _ => none
theorem de_rev {j : Nat} {p1 p2 p3 : Pos} (ha : DE W N sc a fa) : DE W N sc (.Subscript a (.Slice none none (some (.UnaryOp .USub (.Constant (.int 1) j p1) p2)) p3) pos) (eUn dRev fa) := by
  intro X gd
  refine PE.imp (pe_revL (ha X gd)) fun σ H Q h => ?_
  obtain ⟨env, M, s, M', F, κ, e, t, er, k⟩ := h
  unfold eUn at e
  split at e
  rotate_left
  · cases e
  rename_i sa M1 e1
  split at e
  rotate_left
  · cases e
  rename_i x e3
  split at e
  rotate_left
  · cases e
  rename_i r e5
  simp only [Option.some.injEq, Prod.mk.injEq] at e
  obtain ⟨rfl, rfl⟩ := e
  refine ⟨env, M, sa, M1, F, κ, e1, t, er, fun F1 κ1 H1 va x1 t1 ra => ?_⟩
  cases x with
  | lst ds =>
    obtain ⟨p, vs, rfl, hq, rs⟩ := (t1.view ra e3).lst_ t1.sub
    have e5 : D.lst ds.reverse = r := Option.some.inj e5
    subst e5
    refine ⟨p, vs, rfl, .of hq, fun p' hp => ?_⟩
    have n := New.one (o := .lst vs.reverse) t1.sub hp
    exact k _ κ1 _ (.ref p') (x1.trans (.sub' n.fr)) (t1.new n) (show Rep W.K W.cA _ (.ref p') (.lst _) from .lst upd_same (rs.reverse.mono n.fr))
  | _ => cases e5
/-! ### calls -/
theorem plain_args {es : List Expr} (h : es.all notStar = true) (pos : Pos) (env : Env) : (backTo pos (starEach es env)).any (·.1) = false := by
  induction es with
  | nil => rfl
  | cons e es ih =>
    simp only [List.all_cons, Bool.and_eq_true] at h
    rw [star_cons h.1]
    have := ih h.2
    simp only [backTo, List.map_cons, List.any_cons, Bool.false_or] at this ⊢
    exact this
theorem eCall_some {g : List D → Option D} {env : Ev} {M M' : Ms} {s : S} (h : eCall g ga env M = some (s, M')) : ∃ ss xs r, ga env M = some (ss, M') ∧ views M' ss = some xs ∧ g xs = some r ∧ s = .d r := by
  unfold eCall at h
  split at h
  rotate_left
  · cases h
  rename_i ss M1 e1
  split at h
  rotate_left
  · cases h
  rename_i xs e2
  split at h
  rotate_left
  · cases h
  rename_i r e3
  simp only [Option.some.injEq, Prod.mk.injEq] at h
  obtain ⟨rfl, rfl⟩ := h
  exact ⟨ss, xs, r, e1, e2, e3, rfl⟩
theorem tEv_call {X : Cx} (gd : Gd W N sc X) {f : Value} {g : List D → Option D} (ho : CallS f g) : ∀ σ H Q, tEv W (eCall g ga) σ H Q → tCB (cStar X f) (tAv W ga) σ H Q := by
  intro σ H Q h
  obtain ⟨env, M, s, M', F, κ, e, t, er, k⟩ := h
  obtain ⟨ss, xs, r, e1, e2, e3, rfl⟩ := eCall_some e
  refine ⟨env, M, ss, M', F, κ, e1, t, er, fun F1 κ1 H1 vs x1 t1 rs => ?_⟩
  refine ho W N sc X gd F1 H1 vs xs r t1.sub (t1.views rs e2) e3 Q fun v F3 H3 n rv => ?_
  exact k F3 κ1 H3 v (x1.trans (.sub' n.fr)) (t1.new n) rv
def Free (W : Wd) (sc : Scp) (x : Str) : Prop := sc.names.lookup x = some .globalImplicit ∧ W.mg x = none
theorem Gd.gl {X : Cx} (gd : Gd W N sc X) {x : Str} (h : sc.names.lookup x = some .globalImplicit) : Gl X x := by unfold Gl Env.kindOf; rw [gd.eS]; exact h
theorem de_callB {id : String} {x : Str} {p : Pos} {g : List D → Option D} (hc : CallS (.builtin id) g) (hf : Free W sc x) (hv : bootBuiltins x = some (.builtin id)) (hst : notStar a = true) (hss : es.all notStar = true) (ha : DA W N sc (a :: es) ga)
    (hn : x ≠ "__name__") (hdb : (x == ("__debug__" : Str)) = false) : DE W N sc (.Call (.Name x p) (a :: es) [] pos) (eCall g ga) := fun X gd =>
  PE.imp (pe_callB (CallR.star X _) (gd.gl hf.1) (by rw [gd.mg]; exact hf.2) hv (ha X gd) hn hdb (star_cons hst _ _) (plain_args hss _ _)) (tEv_call gd hc)
theorem de_callT {T : String} {x : Str} {p : Pos} {g : List D → Option D} (hc : CallS (.type T) g) (hf : Free W sc x) (hv : bootBuiltins x = some (.type T)) (hst : notStar a = true) (hss : es.all notStar = true) (ha : DA W N sc (a :: es) ga)
    (hn : x ≠ "__name__") (hdb : (x == ("__debug__" : Str)) = false) : DE W N sc (.Call (.Name x p) (a :: es) [] pos) (eCall g ga) := fun X gd =>
  PE.imp (pe_callTy (CallR.star X _) (gd.gl hf.1) (by rw [gd.mg]; exact hf.2) hv (ha X gd) hn hdb (star_cons hst _ _) (plain_args hss _ _)) (tEv_call gd hc)
/-- what a def that means f promises -/
def spG (W : Wd) (f : FSem) : Sp := fun vs H Q _ => ∃ F κ M ss s M', SReps W.K W.cA F κ vs ss ∧ f ss M = some (s, M') ∧ Stt W.K W.cA F H κ M ∧
  ∀ F' κ' H' v, Ext F κ F' κ' → Stt W.K W.cA F' H' κ' M' → SRep W.K W.cA F' κ' v s → Q v H'
/-- x is a def of n parameters that means f -/
def FnHas (W : Wd) (x : Str) (f : FSem) : Prop := ∃ fa fd ps, W.mg x = some (.ref fa) ∧ PySem.W.keepIn W.K (.ref fa) = true ∧ Binds W.K fd ps [] ∧ FnOk W.P W.w W.K W.mg W.base CX0 W.k fa fd ps (spG W f)
def eFn (f : FSem) (ga : AF) : EF := fun env M => match ga env M with
  | some (ss, M1) => f ss M1
  | none => none
theorem tEv_fn {f : FSem} : ∀ σ H Q, tEv W (eFn f ga) σ H Q → tCall (spG W f) [] E0 (tAv W ga) σ H Q := by
  intro σ H Q h
  obtain ⟨env, M, s, M', F, κ, e, t, er, k⟩ := h
  unfold eFn at e
  split at e
  rotate_left
  · cases e
  rename_i ss M1 e1
  refine ⟨env, M, ss, M1, F, κ, e1, t, er, fun F1 κ1 H1 vs x1 t1 rs => ?_⟩
  show spG W f (vs ++ []) H1 Q E0
  rw [List.append_nil]
  exact ⟨F1, κ1, M1, ss, s, M', rs, e, t1, fun F2 κ2 H2 v x2 => k F2 κ2 H2 v (x1.trans x2)⟩
theorem Gd.fnok {X : Cx} (gd : Gd W N sc X) {f : Addr} {fd : FuncData} {ps : List Str} {sp : Sp} {j : Nat} (h : FnOk W.P W.w W.K W.mg W.base CX0 j f fd ps sp) : FnOk X.prog X.w X.K X.mg X.base CX0 j f fd ps sp := by
  rw [gd.prog, gd.w, gd.K, gd.mg, gd.base]; exact h
theorem de_fn {x : Str} {p : Pos} {f : FSem} (hf : FnHas W x f) (hg : sc.names.lookup x = some .globalImplicit) (hst : notStar a = true) (hss : es.all notStar = true) (ha : DA W N sc (a :: es) ga) (hdb : (x == ("__debug__" : Str)) = false) :
    DE W N sc (.Call (.Name x p) (a :: es) [] pos) (eFn f ga) := by
  intro X gd
  obtain ⟨fa, fd, ps, hm, hk, hb, ok⟩ := hf
  exact PE.imp (pe_call (gd.fnok ok) gd.hr (gd.gl hg) (by rw [gd.mg]; exact hm) (by rw [gd.K]; exact hk) (by rw [gd.K]; exact hb) .nil pass0 (ha X gd) hdb (star_cons hst _ _) (plain_args hss _ _)) tEv_fn
theorem de_fn0 {x : Str} {p : Pos} {f : FSem} (hf : FnHas W x f) (hg : sc.names.lookup x = some .globalImplicit) (hdb : (x == ("__debug__" : Str)) = false) : DE W N sc (.Call (.Name x p) [] [] pos) (eFn f aNil) := by
  intro X gd
  obtain ⟨fa, fd, ps, hm, hk, hb, ok⟩ := hf
  refine PE.imp (pe_call0 (gd.fnok ok) gd.hr (gd.gl hg) (by rw [gd.mg]; exact hm) (by rw [gd.K]; exact hk) (by rw [gd.K]; exact hb) .nil pass0 hdb) fun σ H Q h => ?_
  have q := tEv_fn σ H Q h
  obtain ⟨env, M, ss, M', F, κ, e, t, er, k⟩ := q
  simp only [aNil, Option.some.injEq, Prod.mk.injEq] at e
  obtain ⟨rfl, rfl⟩ := e
  exact k F κ H [] (.refl _ _) t .nil
/-! ### a class: a new instance in a cell -/
def MkHas (W : Wd) (x : Str) (f : FSem) : Prop := ∃ C fa fd ps j, W.cA x = some C ∧ W.mg x = some (.ref C) ∧ Mk W.K C fa ∧ Binds W.K fd ps [] ∧ FnOk W.P W.w W.K W.mg W.base CX0 j fa fd ps (spG W f) ∧ j + 1 = W.k
/-- the new one in a cell behind all others -/
def eMake (x : Str) (f : FSem) (ga : AF) : EF := fun env M => match ga env M with
  | some (ss, M1) => match f (.hd M1.length :: ss) (M1 ++ [.obj x []]) with
    | some (.d .non, M2) => some (.hd M1.length, M2)
    | _ => none
  | none => none
theorem CellR.some_ {K : PySem.W.Frag} {cA : Str → Option Addr} {F H : Hp} {a : Addr} {c : Cell} (h : CellR K cA F H a c) (hn : ∀ d, c ≠ .frz d) : ∃ o, H a = some o := by
  cases c with
  | lst ds => obtain ⟨_, vs, q, _⟩ := h; exact ⟨_, q⟩
  | dct ds => obtain ⟨_, vs, q, _⟩ := h; exact ⟨_, q⟩
  | obj c gs => obtain ⟨_, C, dx, fs, _, q, _⟩ := h; exact ⟨_, q⟩
  | frz d => exact absurd rfl (hn d)
theorem Stt.push {K : PySem.W.Frag} {cA : Str → Option Addr} {F H : Hp} {κ : List Addr} {M : Ms} (t : Stt K cA F H κ M) {p : Addr} {c : Cell} (hp : H p = none) {H' : Hp} (n : New F H F H') (hc : CellR K cA F H' p c) (hn : ∀ d, c ≠ .frz d) : Stt K cA F H' (κ ++ [p]) (M ++ [c]) := by
  have fresh : p ∉ κ := fun hm => by
    obtain ⟨o, e⟩ := t.tr p hm
    rw [hp] at e; cases e
  refine ⟨n.sub, ?_, by simp [t.len], fun a ha => ?_, fun k a c' e1 e2 => ?_⟩
  · rw [List.nodup_append]
    exact ⟨t.nd, by simp, fun a ha b hb => by
      have : b = p := by simpa using hb
      subst this
      rintro rfl
      exact fresh ha⟩
  · rcases List.mem_append.mp ha with ha | ha
    · obtain ⟨o, e⟩ := t.tr a ha
      exact ⟨o, n.same _ _ e⟩
    · have : a = p := by simpa using ha
      subst this
      exact hc.some_ hn
  · by_cases hk : k < κ.length
    · rw [List.getElem?_append_left hk] at e1
      rw [List.getElem?_append_left (by rw [← t.len]; exact hk)] at e2
      exact (t.cell k a c' e1 e2).new n
    · rw [List.getElem?_append_right (by omega)] at e1
      rw [List.getElem?_append_right (by rw [← t.len]; omega)] at e2
      have h1 : k - κ.length = 0 := by
        obtain ⟨hl, _⟩ := List.getElem?_eq_some_iff.mp e1
        simpa using hl
      rw [h1] at e1
      rw [← t.len, h1] at e2
      simp at e1 e2
      subst e1 e2
      exact hc
end
end G
/-! Making instances, methods; statements. -/
namespace G
open PySem L2
section
variable {W : Wd} {N : List Str} {sc : Scp} {a b c : Expr} {fa fb fc : EF} {es : List Expr} {ga : AF} {pos : Pos}
theorem tEv_make {x : Str} {f : FSem} {C : Addr} (hC : W.cA x = some C) : ∀ σ H Q, tEv W (eMake x f ga) σ H Q → tMake C (spG W f) [] E0 (tAv W ga) σ H Q := by
  intro σ H Q h
  obtain ⟨env, M, s, M', F, κ, e, t, er, k⟩ := h
  unfold eMake at e
  split at e
  rotate_left
  · cases e
  rename_i ss M1 e1
  split at e
  rotate_left
  · cases e
  rename_i M2 e2
  simp only [Option.some.injEq, Prod.mk.injEq] at e
  obtain ⟨rfl, rfl⟩ := e
  refine ⟨env, M, ss, M1, F, κ, e1, t, er, fun F1 κ1 H1 vs x1 t1 rs => fun x dx hx hdx hne => ?_⟩
  rw [List.append_nil]
  have n : New F1 H1 F1 (upd (upd H1 dx (.own x)) x (.ins C dx [])) := (New.oneH t1.sub hdx).trans (New.oneH (t1.sub.transS (Sub.upd hdx)) (by rw [upd_ne hne.symm]; exact hx))
  have hk : (κ1 ++ [x])[M1.length]? = some x := by rw [← t1.len]; simp
  have t2 : Stt W.K W.cA F1 _ (κ1 ++ [x]) (M1 ++ [.obj _ []]) := t1.push hx n (c := .obj _ []) ⟨t1.sub.none hx, C, dx, [], hC, upd_same, rfl, .nil, by simp⟩ (fun d z => by cases z)
  have xe : Ext F1 κ1 F1 (κ1 ++ [x]) := ⟨.refl _, [x], rfl⟩
  refine ⟨F1, κ1 ++ [x], _, _, _, M2, .cons (show SRep W.K W.cA F1 (κ1 ++ [x]) (.ref x) (.hd M1.length) from ⟨x, hk, rfl⟩) (rs.ext xe), e2, t2, fun F' κ' H' v xx tt r => ?_⟩
  have r : Rep W.K W.cA F' v .non := r
  cases r
  refine ⟨rfl, k F' κ' H' _ ((x1.trans xe).trans xx) tt ?_⟩
  exact (show SRep W.K W.cA F1 (κ1 ++ [x]) (.ref x) (.hd M1.length) from ⟨x, hk, rfl⟩).ext xx
theorem de_make {x : Str} {p : Pos} {f : FSem} (hf : MkHas W x f) (hg : sc.names.lookup x = some .globalImplicit) (hst : notStar a = true) (hss : es.all notStar = true) (ha : DA W N sc (a :: es) ga) (hdb : (x == ("__debug__" : Str)) = false) :
    DE W N sc (.Call (.Name x p) (a :: es) [] pos) (eMake x f ga) := by
  intro X gd
  obtain ⟨C, fa, fd, ps, j, hC, hm, mk, hb, ok, hj⟩ := hf
  exact PE.imp (pe_make (by rw [gd.K]; exact mk) (gd.fnok ok) (by rw [hj]; exact gd.hr) (gd.gl hg) (by rw [gd.mg]; exact hm) (by rw [gd.K]; exact hb) .nil pass0 (ha X gd) hdb (star_cons hst _ _) (plain_args hss _ _)) (tEv_make hC)
theorem de_make0 {x : Str} {p : Pos} {f : FSem} (hf : MkHas W x f) (hg : sc.names.lookup x = some .globalImplicit) (hdb : (x == ("__debug__" : Str)) = false) : DE W N sc (.Call (.Name x p) [] [] pos) (eMake x f aNil) := by
  intro X gd
  obtain ⟨C, fa, fd, ps, j, hC, hm, mk, hb, ok, hj⟩ := hf
  refine PE.imp (pe_make0 (by rw [gd.K]; exact mk) (gd.fnok ok) (by rw [hj]; exact gd.hr) (gd.gl hg) (by rw [gd.mg]; exact hm) (by rw [gd.K]; exact hb) .nil pass0 hdb) fun σ H Q h => ?_
  have q := tEv_make hC σ H Q h
  obtain ⟨env, M, ss, M', F, κ, e, t, er, k⟩ := q
  simp only [aNil, Option.some.injEq, Prod.mk.injEq] at e
  obtain ⟨rfl, rfl⟩ := e
  exact k F κ H [] (.refl _ _) t .nil
/-- .. and changed no more: a tree; what was put into cells meanwhile is dropped -/
def eDrop (fa : EF) : EF := fun env M => match fa env M with
  | some (s, M1) => match frz M1 s with
    | some (d, M2) => if M.length ≤ M2.length then some (.d d, M2.take M.length) else none
    | none => none
  | none => none
theorem Stt.take {K : PySem.W.Frag} {cA : Str → Option Addr} {F H : Hp} {κ : List Addr} {M : Ms} (t : Stt K cA F H κ M) (n : Nat) : Stt K cA F H (κ.take n) (M.take n) := by
  refine ⟨t.sub, t.nd.sublist (List.take_sublist _ _), by simp [t.len], fun a ha => t.tr a (List.mem_of_mem_take ha), fun k a c e1 e2 => ?_⟩
  rw [List.getElem?_take] at e1 e2
  split at e1
  · rename_i hk
    rw [if_pos hk] at e2
    exact t.cell k a c e1 e2
  · cases e1
theorem de_drop (ha : DE W N sc a fa) : DE W N sc a (eDrop fa) := by
  intro X gd
  refine PE.imp (ha X gd) fun σ H Q h => ?_
  obtain ⟨env, M, s, M', F, κ, e, t, er, k⟩ := h
  unfold eDrop at e
  split at e
  rotate_left
  · cases e
  rename_i s1 M1 e1
  split at e
  rotate_left
  · cases e
  rename_i d M2 e2
  split at e
  rotate_left
  · cases e
  rename_i hl
  simp only [Option.some.injEq, Prod.mk.injEq] at e
  obtain ⟨rfl, rfl⟩ := e
  refine ⟨env, M, s1, M1, F, κ, e1, t, er, fun F1 κ1 H1 v x1 t1 r => ?_⟩
  obtain ⟨F2, x2, t2, r2⟩ := t1.frz r e2
  have xx := x1.trans x2
  obtain ⟨hs, m, hm⟩ := xx
  have e : κ1.take M.length = κ := by rw [hm, ← t.len]; simp
  refine k F2 (κ1.take M.length) H1 v ⟨hs, [], by rw [e]; simp⟩ (t2.take _) r2
/-! ### methods -/
def MethHas (W : Wd) (c m : Str) (f : FSem) : Prop := ∀ C, W.cA c = some C → ∃ fa fd ps, Meth W.K C m fa ∧ Binds W.K fd ps [] ∧ FnOk W.P W.w W.K W.mg W.base CX0 W.k fa fd ps (spG W f)
/-- mt: what the method m of each class means -/
def eMeth (mt : Str → Option FSem) (m : Str) (fa : EF) (ga : AF) : EF := fun env M => match fa env M with
  | some (s, M1) => match view M1 s with
    | some (.obj c gs) => match mt c with
      | some f => match gs.lookup m with
        | some _ => none
        | none => match ga env M1 with
          | some (ss, M2) => f (s :: ss) M2
          | none => none
      | none => none
    | _ => none
  | none => none
theorem meth_eq {o : Expr} {m : Str} {apos : Pos} {args : List Expr} (hb : notSuper o = true) (hst : args.all notStar = true) (hl : args.length < 30) (hline : (apos.endLine == pos.line) = true) (env : Env) :
    eval (.Call (.Attribute o m apos) args [] pos) env = (do
      let ov ← eval o env
      standAt apos.atName
      let (f, first) ← holding [ov] (getMethod ov m (do return (← importBound o env).getD true))
      callWith pos f first (backTo pos (starEach args env)) (backToKw pos (keywordEach [] env))) := by
  have hall : (backTo pos (starEach args env)).all (fun x => !x.1) = true := by
    have := plain_args hst pos env
    rw [List.all_eq_not_any_not]
    simpa using this
  have hf : methodCallForm (args.length + ([] : List Keyword).length) (backTo pos (starEach args env)) (backToKw pos (keywordEach [] env)) = true := by
    unfold methodCallForm
    rw [hall]
    simp [keywordEach, backToKw, hl]
  rw [arm_eval_Call, attr_base hb]
  unfold methodCall calleeOf methodCallPos
  rw [hf]
  simp [hline]
theorem lookup_none {K : PySem.W.Frag} {cA : Str → Option Addr} {F : Hp} : ∀ {fs : List (Str × V)} {gs : List (Str × D)} {x : Str}, fs.map (·.1) = gs.map (·.1) → gs.lookup x = none → fs.lookup x = none
  | [], [], x, _, h => by simp
  | [], _ :: _, x, e, h => by simp at e
  | _ :: _, [], x, e, h => by simp at e
  | (f, v) :: fs, (g, d') :: gs, x, e, h => by
    simp only [List.map_cons, List.cons.injEq] at e
    obtain ⟨rfl, e⟩ := e
    rw [List.lookup_cons] at h ⊢
    cases hb : x == f with
    | true => simp only [hb] at h; cases h
    | false => simp only [hb] at h; exact lookup_none (K := K) (cA := cA) (F := F) e h
theorem de_meth {mt : Str → Option FSem} {m : Str} {apos : Pos} (hmt : ∀ c f, mt c = some f → MethHas W c m f) (hb : notSuper a = true) (hst : notStar b = true) (hss : es.all notStar = true) (hl : (b :: es).length < 30) (hline : (apos.endLine == pos.line) = true)
    (ha : DE W N sc a fa) (hr : DA W N sc (b :: es) ga) : DE W N sc (.Call (.Attribute a m apos) (b :: es) [] pos) (eMeth mt m fa ga) := by
  intro X gd
  refine ⟨fun pins s σ H Q I h => ?_⟩
  obtain ⟨env, M, s', M', F, κ, e, t, er, k⟩ := h
  unfold eMeth at e
  split at e
  rotate_left
  · cases e
  rename_i s1 M1 e1
  split at e
  rotate_left
  · cases e
  rename_i c gs e2
  split at e
  rotate_left
  · cases e
  rename_i f e3
  split at e
  · cases e
  rename_i e4
  split at e
  rotate_left
  · cases e
  rename_i ss M2 e5
  have hst' : (b :: es).all notStar = true := by rw [List.all_cons, hst, hss]; rfl
  refine PySem.W.methodCall_KW (thn ((ha X gd).run pins s σ H (fun x H1 => ∃ p C dx fs g fd ps, x = .ref p ∧ H1 p = some (.ins C dx fs) ∧ Cls X.K C ∧ Meth X.K C m g ∧ fs.lookup m = none ∧ Binds X.K fd ps [] ∧ FnOk X.prog X.w X.K X.mg X.base CX0 W.k g fd ps (spG W f) ∧
    tAv W ga σ H1 fun vs H2 => spG W f (.ref p :: vs) H2 Q E0) I ⟨env, M, s1, M1, F, κ, e1, t, er, fun F1 κ1 H1 v x1 t1 r => ?_⟩) fun u s2 ⟨x, H1, I1, rx, p, C, dx, fs, g, fd, ps, ex, ea, c', hm, l, hbd, ok, q⟩ => ?_) (meth_eq hb hst' hl hline X.env)
  · obtain ⟨p, C, dx, fs, rfl, hc, hp, en, rs, na⟩ := (t1.view r e2).obj_ t1.sub
    obtain ⟨g, fd, ps, hm, hbd, ok⟩ := hmt c f e3 C hc
    refine ⟨p, C, dx, fs, g, fd, ps, rfl, hp, by rw [gd.K]; exact W.cls c C hc, by rw [gd.K]; exact hm, lookup_none (K := W.K) (cA := W.cA) (F := F1) en e4, by rw [gd.K]; exact hbd, gd.fnok ok, ?_⟩
    refine ⟨env, M1, ss, M2, F1, κ1, e5, t1, er.ext x1, fun F2 κ2 H2 vs x2 t2 rs2 => ?_⟩
    exact ⟨F2, κ2, M2, s1 :: ss, s', M', .cons (r.ext x2) rs2, e, t2, fun F3 κ3 H3 v x3 => k F3 κ3 H3 v ((x1.trans x2).trans x3)⟩
  · subst ex
    obtain rfl : u = Value.ref p := rx
    refine getmeth_ok I1 ea c' hm l ?_
    refine PySem.W.callWith_K (first := [.ref p]) (h₀ := X.base) I.ok.mod.kin hm.kp (thn ((hr X gd).run pos pins s2 σ H1 _ I1 q) fun us s3 ⟨vs, H2, I2, r, q2⟩ => ⟨I2.kIn, ?_⟩) (star_cons hst _ _) (plain_args hss _ _)
    exact run_fn (us := .ref p :: us) (vs := .ref p :: vs) ok gd.hr hbd .nil pass0 I2 (.cons rfl r) (by rw [List.append_nil]; exact q2)
theorem de_meth0 {mt : Str → Option FSem} {m : Str} {apos : Pos} (hmt : ∀ c f, mt c = some f → MethHas W c m f) (hb : notSuper a = true) (hline : (apos.endLine == pos.line) = true)
    (ha : DE W N sc a fa) : DE W N sc (.Call (.Attribute a m apos) [] [] pos) (eMeth mt m fa aNil) := by
  intro X gd
  refine ⟨fun pins s σ H Q I h => ?_⟩
  obtain ⟨env, M, s', M', F, κ, e, t, er, k⟩ := h
  unfold eMeth at e
  split at e
  rotate_left
  · cases e
  rename_i s1 M1 e1
  split at e
  rotate_left
  · cases e
  rename_i c gs e2
  split at e
  rotate_left
  · cases e
  rename_i f e3
  split at e
  · cases e
  rename_i e4
  simp only [aNil] at e
  refine PySem.W.methodCall_KW (thn ((ha X gd).run pins s σ H (fun x H1 => ∃ p C dx fs g fd ps, x = .ref p ∧ H1 p = some (.ins C dx fs) ∧ Cls X.K C ∧ Meth X.K C m g ∧ fs.lookup m = none ∧ Binds X.K fd ps [] ∧ FnOk X.prog X.w X.K X.mg X.base CX0 W.k g fd ps (spG W f) ∧
    spG W f [.ref p] H1 Q E0) I ⟨env, M, s1, M1, F, κ, e1, t, er, fun F1 κ1 H1 v x1 t1 r => ?_⟩) fun u s2 ⟨x, H1, I1, rx, p, C, dx, fs, g, fd, ps, ex, ea, c', hm, l, hbd, ok, q⟩ => ?_) (meth_eq hb rfl (by simp) hline X.env)
  · obtain ⟨p, C, dx, fs, rfl, hc, hp, en, rs, na⟩ := (t1.view r e2).obj_ t1.sub
    obtain ⟨g, fd, ps, hm, hbd, ok⟩ := hmt c f e3 C hc
    refine ⟨p, C, dx, fs, g, fd, ps, rfl, hp, by rw [gd.K]; exact W.cls c C hc, by rw [gd.K]; exact hm, lookup_none (K := W.K) (cA := W.cA) (F := F1) en e4, by rw [gd.K]; exact hbd, gd.fnok ok, ?_⟩
    exact ⟨F1, κ1, M1, [s1], s', M', .cons r .nil, e, t1, fun F3 κ3 H3 v x3 => k F3 κ3 H3 v (x1.trans x3)⟩
  · subst ex
    obtain rfl : u = Value.ref p := rx
    refine getmeth_ok I1 ea c' hm l ?_
    exact PySem.W.callWith_K0 (first := [.ref p]) I1.kIn hm.kp (run_fn (us := [.ref p]) (vs := [.ref p]) ok gd.hr hbd .nil pass0 I1 (.cons rfl .nil) q)
end
/-! ### statements -/
def sNext : SF := fun env M => some (.nx env M)
def sSeq (f g : SF) : SF := fun env M => match f env M with
  | some (.nx e1 M1) => g e1 M1
  | r => r
def sExpr (f : EF) : SF := fun env M => match f env M with
  | some (_, M1) => some (.nx env M1)
  | none => none
def sRet (f : EF) : SF := fun env M => match f env M with
  | some (s, M1) => some (.rt s M1)
  | none => none
def sRetN : SF := fun _ M => some (.rt (.d .non) M)
def sIf (c : TF) (f g : SF) : SF := fun env M => match c env M with
  | some (true, M1) => f env M1
  | some (false, M1) => g env M1
  | none => none
def sBrk : SF := fun env M => some (.bk env M)
def sCt : SF := fun env M => some (.ct env M)
def sNever : SF := fun _ _ => none
section
variable {W : Wd} {N : List Str} {sc : Scp} {a b c : Expr} {fa fb fc : EF} {st : Stmt} {sts : List Stmt} {f g : SF} {pos : Pos}
theorem db_nil : DB W N sc [] sNext := by
  intro X gd
  refine PSs.imp pss_nil fun D σ H h => ?_
  obtain ⟨env, M, o, F, κ, e, t, er, k⟩ := h
  simp only [sNext, Option.some.injEq] at e
  subst e
  exact k F κ H σ (.refl _ _) t er
theorem db_cons (h1 : DS W N sc st f) (h2 : DB W N sc sts g) : DB W N sc (st :: sts) (sSeq f g) := by
  intro X gd
  refine PSs.imp (pss_cons (h1 X gd) (h2 X gd)) fun D σ H h => ?_
  obtain ⟨env, M, o, F, κ, e, t, er, k⟩ := h
  unfold sSeq at e
  cases e1 : f env M with
  | none => simp [e1] at e
  | some o1 =>
    refine ⟨env, M, o1, F, κ, e1, t, er, ?_⟩
    cases o1 with
    | nx e' M1 =>
      simp only [e1] at e
      intro F1 κ1 H1 σ1 x1 t1 er1
      exact ⟨e', M1, o, F1, κ1, e, t1, er1, k.ext x1⟩
    | rt s M1 =>
      simp only [e1, Option.some.injEq] at e
      subst e
      exact k
    | bk e' M1 =>
      simp only [e1, Option.some.injEq] at e
      subst e
      exact k
    | ct e' M1 =>
      simp only [e1, Option.some.injEq] at e
      subst e
      exact k
theorem db_one (h1 : DS W N sc st f) : DB W N sc [st] f := by
  intro X gd
  exact pss_one (h1 X gd)
theorem ds_pass : DS W N sc (.Pass pos) sNext := by
  intro X gd
  refine PS.imp ps_pass fun D σ H h => ?_
  obtain ⟨env, M, o, F, κ, e, t, er, k⟩ := h
  simp only [sNext, Option.some.injEq] at e
  subst e
  exact k F κ H σ (.refl _ _) t er
theorem ds_brk : DS W N sc (.Break pos) sBrk := by
  intro X gd
  refine PS.imp ps_break fun D σ H h => ?_
  obtain ⟨env, M, o, F, κ, e, t, er, k⟩ := h
  simp only [sBrk, Option.some.injEq] at e
  subst e
  exact k F κ H σ (.refl _ _) t er
theorem ds_ct : DS W N sc (.Continue pos) sCt := by
  intro X gd
  refine PS.imp ps_continue fun D σ H h => ?_
  obtain ⟨env, M, o, F, κ, e, t, er, k⟩ := h
  simp only [sCt, Option.some.injEq] at e
  subst e
  exact k F κ H σ (.refl _ _) t er
theorem ds_never : DS W N sc st sNever := by
  intro X gd
  refine PS.imp ps_never fun D σ H h => ?_
  obtain ⟨env, M, o, F, κ, e, t, er, k⟩ := h
  cases e
theorem ds_ret (ha : DE W N sc a fa) : DS W N sc (.Return (some a) pos) (sRet fa) := by
  intro X gd
  refine PS.imp (ps_ret (ha X gd)) fun D σ H h => ?_
  obtain ⟨env, M, o, F, κ, e, t, er, k⟩ := h
  unfold sRet at e
  split at e
  rotate_left
  · cases e
  rename_i s M1 e1
  simp only [Option.some.injEq] at e
  subst e
  exact ⟨env, M, s, M1, F, κ, e1, t, er, fun F1 κ1 H1 v x1 t1 r => k F1 κ1 H1 v x1 t1 r⟩
theorem ds_retN : DS W N sc (.Return none pos) sRetN := by
  intro X gd
  refine PS.imp ps_retN fun D σ H h => ?_
  obtain ⟨env, M, o, F, κ, e, t, er, k⟩ := h
  simp only [sRetN, Option.some.injEq] at e
  subst e
  exact k F κ H .non (.refl _ _) t (show Rep W.K W.cA F .non .non from .non)
theorem ds_if {cf : TF} {xs ys : List Stmt} (hc : DT W N sc c cf) (h1 : DB W N sc xs f) (h2 : DB W N sc ys g) : DS W N sc (.If c xs ys pos) (sIf cf f g) := by
  intro X gd
  refine PS.imp (ps_if (hc X gd) (h1 X gd) (h2 X gd)) fun D σ H h => ?_
  obtain ⟨env, M, o, F, κ, e, t, er, k⟩ := h
  unfold sIf at e
  split at e
  · rename_i M1 e1
    exact ⟨env, M, _, M1, F, κ, e1, t, er, fun F1 κ1 H1 x1 t1 => iteT ⟨env, M1, o, F1, κ1, e, t1, er.ext x1, k.ext x1⟩⟩
  · rename_i M1 e1
    exact ⟨env, M, _, M1, F, κ, e1, t, er, fun F1 κ1 H1 x1 t1 => iteF ⟨env, M1, o, F1, κ1, e, t1, er.ext x1, k.ext x1⟩⟩
  · cases e
/-- no comprehension -/
def notComp : Expr → Bool
  | .ListComp _ _ _ _ => false
  | .SetComp _ _ _ _ => false
  | .DictComp _ _ _ _ _ => false
  | _ => true
theorem swaps_no {e : Expr} (h : notComp e = true) (t : Option Expr) (l : Nat) (env : Env) : swapsWith e t l env = pure false := by
  cases e <;> first | rfl | cases h
theorem ds_expr (hn : notComp a = true) (ha : DE W N sc a fa) : DS W N sc (.Expr a pos) (sExpr fa) := by
  intro X gd
  refine PS.imp (ps_expr (ha X gd) (swaps_no hn _ _ _)) fun D σ H h => ?_
  obtain ⟨env, M, o, F, κ, e, t, er, k⟩ := h
  unfold sExpr at e
  split at e
  rotate_left
  · cases e
  rename_i s M1 e1
  simp only [Option.some.injEq] at e
  subst e
  exact ⟨env, M, s, M1, F, κ, e1, t, er, fun F1 κ1 H1 v x1 t1 r => k F1 κ1 H1 σ x1 t1 (er.ext x1)⟩
end
/-! ### targets -/
abbrev GF := S → Ev → Ms → Option (Ev × Ms)
abbrev GFs := List D → Ev → Ms → Option (Ev × Ms)
def tGv (W : Wd) (f : GF) : TG := fun v σ H Q => ∃ s env M env' M' F κ, f s env M = some (env', M') ∧ SRep W.K W.cA F κ v s ∧ Stt W.K W.cA F H κ M ∧ EnvR W.K W.cA F κ σ env ∧
  ∀ F' κ' H' σ', Ext F κ F' κ' → Stt W.K W.cA F' H' κ' M' → EnvR W.K W.cA F' κ' σ' env' → Q σ' H'
def tGvs (W : Wd) (f : GFs) : TGs := fun vs σ H Q => ∃ ds env M env' M' F κ, f ds env M = some (env', M') ∧ Reps W.K W.cA F vs ds ∧ Stt W.K W.cA F H κ M ∧ EnvR W.K W.cA F κ σ env ∧
  ∀ F' κ' H' σ', Ext F κ F' κ' → Stt W.K W.cA F' H' κ' M' → EnvR W.K W.cA F' κ' σ' env' → Q σ' H'
def DG (W : Wd) (N : List Str) (sc : Scp) (e : Expr) (f : GF) : Prop := ∀ X, Gd W N sc X → PG X e (tGv W f)
def DGs (W : Wd) (N : List Str) (sc : Scp) (es : List Expr) (f : GFs) : Prop := ∀ X, Gd W N sc X → PGs X es (tGvs W f)
theorem PG.imp {X : Cx} {e : Expr} {t t' : TG} (h : PG X e t) (i : ∀ v σ H Q, t' v σ H Q → t v σ H Q) : PG X e t' := ⟨fun pins s σ H v u Q I r hw => h.run pins s σ H v u Q I r (i v σ H Q hw)⟩
theorem PGs.imp {X : Cx} {e : List Expr} {t t' : TGs} (h : PGs X e t) (i : ∀ v σ H Q, t' v σ H Q → t v σ H Q) : PGs X e t' := ⟨fun pins s σ H v u Q I r hw => h.run pins s σ H v u Q I r (i v σ H Q hw)⟩
def gVar (i : Nat) : GF := fun s env M => if i < env.length then some (env.set i (some s), M) else none
def gsNil : GFs := fun ds env M => match ds with
  | [] => some (env, M)
  | _ => none
def gsCons (f : GF) (g : GFs) : GFs := fun ds env M => match ds with
  | d :: r => match f (.d d) env M with
    | some (e1, M1) => g r e1 M1
    | none => none
  | [] => none
def gTupD (n : Nat) (g : GFs) : GF := fun s env M => match view M s with
  | some (.tup ds) => if ds.length = n then g ds env M else none
  | _ => none
section
variable {W : Wd} {N : List Str} {sc : Scp} {a b c : Expr} {fa fb fc : EF} {es : List Expr} {st : Stmt} {sts : List Stmt} {pos : Pos}
theorem dg_var {i : Nat} {x : Str} (hi : N[i]? = some x) (hx : L2.Loc sc.toScope x) (hf : sc.fs x = true ∨ sc.names.lookup x = some .local) : DG W N sc (.Name x pos) (gVar i) := by
  intro X gd
  refine PG.imp (pg_name (i := i) (by rw [gd.eN]; exact gd.nd) (by rw [gd.eN]; exact hi) (by rw [gd.eS]; exact hx) (by rw [gd.eS]; exact hf.imp_left (gd.fn x))) fun v σ H Q h => ?_
  obtain ⟨s, env, M, env', M', F, κ, e, r, t, er, k⟩ := h
  unfold gVar at e
  split at e
  rotate_left
  · cases e
  simp only [Option.some.injEq, Prod.mk.injEq] at e
  obtain ⟨rfl, rfl⟩ := e
  exact k F κ H _ (.refl _ _) t (er.set r)
theorem dgs_nil : DGs W N sc [] gsNil := by
  intro X gd
  refine PGs.imp pgs_nil fun vs σ H Q h => ?_
  obtain ⟨ds, env, M, env', M', F, κ, e, r, t, er, k⟩ := h
  unfold gsNil at e
  split at e
  rotate_left
  · cases e
  simp only [Option.some.injEq, Prod.mk.injEq] at e
  obtain ⟨rfl, rfl⟩ := e
  cases r
  exact ⟨rfl, k F κ H _ (.refl _ _) t er⟩
theorem assign_cons {e : Expr} (h : notStar e = true) (es : List Expr) (env : Env) : (assignEach (e :: es) env).map (·.2) = assign e env :: (assignEach es env).map (·.2) := by
  cases e <;> first | rfl | cases h
theorem assign_len : ∀ (es : List Expr) (env : Env), (assignEach es env).length = es.length
  | [], _ => rfl
  | e :: es, env => by
    have ih := assign_len es env
    cases e <;> exact congrArg Nat.succ ih
theorem assign_plain : ∀ {es : List Expr} (h : es.all notStar = true) (env : Env), (assignEach es env).findIdx? (·.1) = none
  | [], _, _ => rfl
  | e :: es, h, env => by
    simp only [List.all_cons, Bool.and_eq_true] at h
    have ih := assign_plain h.2 env
    have : assignEach (e :: es) env = (false, assign e env) :: assignEach es env := by
      have h1 := h.1
      cases e <;> first | rfl | cases h1
    rw [this, List.findIdx?_cons]
    simp [ih]
theorem dgs_cons {f : GF} {g : GFs} (hs : notStar a = true) (h1 : DG W N sc a f) (h2 : DGs W N sc es g) : DGs W N sc (a :: es) (gsCons f g) := by
  intro X gd
  refine PGs.imp (pgs_cons (h1 X gd) (h2 X gd) (assign_cons hs _ _)) fun vs σ H Q h => ?_
  obtain ⟨ds, env, M, env', M', F, κ, e, r, t, er, k⟩ := h
  unfold gsCons at e
  split at e
  rotate_left
  · cases e
  rename_i d rest
  split at e
  rotate_left
  · cases e
  rename_i e1 M1 q1
  cases r with
  | cons r rr =>
    refine ⟨_, _, rfl, .d d, env, M, e1, M1, F, κ, q1, r, t, er, fun F1 κ1 H1 σ1 x1 t1 er1 => ?_⟩
    exact ⟨rest, e1, M1, env', M', F1, κ1, e, rr.mono x1.sub, t1, er1, fun F2 κ2 H2 σ2 x2 => k F2 κ2 H2 σ2 (x1.trans x2)⟩
theorem dg_tup {j : Nat} {g : GFs} (hs : es.all notStar = true) (h : DGs W N sc es g) : DG W N sc (.Tuple es j pos) (gTupD es.length g) := by
  intro X gd
  refine PG.imp (pg_tup (n := es.length) gd.calm (h X gd) (assign_len _ _) (assign_plain hs _)) fun v σ H Q h => ?_
  obtain ⟨s, env, M, env', M', F, κ, e, r, t, er, k⟩ := h
  unfold gTupD at e
  split at e
  rotate_left
  · cases e
  rename_i ds e1
  split at e
  rotate_left
  · cases e
  rename_i hl
  obtain ⟨p, vs, rfl, hq, rs⟩ := (t.view r e1).tup_ t.sub
  exact ⟨p, vs, rfl, by rw [gd.K]; exact hq, by rw [rs.length]; exact hl, ds, env, M, env', M', F, κ, e, rs, t, er, k⟩
end
end G
/-! New lists and dicts in cells; assignments. -/
namespace G
open PySem L2
/-- a new thing: what its cell would hold -/
abbrev CF := Ev → Ms → Option (Cell × Ms)
def notFrz : Cell → Bool
  | .frz _ => false
  | _ => true
def tFr (W : Wd) (f : CF) : TE := fun σ H Q => ∃ env M c M' F κ, f env M = some (c, M') ∧ Stt W.K W.cA F H κ M ∧ EnvR W.K W.cA F κ σ env ∧
  ∀ F' κ' H' p, Ext F κ F' κ' → Stt W.K W.cA F' H' κ' M' → p ∉ κ' → notFrz c = true → CellR W.K W.cA F' H' p c → Q (.ref p) H'
def DF (W : Wd) (N : List Str) (sc : Scp) (e : Expr) (f : CF) : Prop := ∀ X, Gd W N sc X → PE X e (tFr W f)
def eTree (f : CF) : EF := fun env M => match f env M with
  | some (c, M') => some (.d c.toD, M')
  | none => none
def eLive (f : CF) : EF := fun env M => match f env M with
  | some (c, M') => some (.hd M'.length, M' ++ [c])
  | none => none
section
variable {W : Wd} {N : List Str} {sc : Scp} {a b c : Expr} {fa fb fc : EF} {es : List Expr} {ga : AF} {pos : Pos}
theorem CellR.tree {K : PySem.W.Frag} {cA : Str → Option Addr} {F H : Hp} {p : Addr} {c : Cell} (h : CellR K cA F H p c) (hn : notFrz c = true) : F p = none ∧ ∃ o, H p = some o ∧ Rep K cA (upd F p o) (.ref p) c.toD := by
  cases c with
  | lst ds => obtain ⟨f, vs, q1, q2⟩ := h; exact ⟨f, _, q1, .lst upd_same (q2.mono (SubH.upd f))⟩
  | dct kds => obtain ⟨f, kvs, q1, q2, q3⟩ := h; exact ⟨f, _, q1, .dct (.inl upd_same) q2 (q3.mono (SubH.upd f))⟩
  | obj c gs => obtain ⟨f, C, dx, fs, q1, q2, q3, q4, q5⟩ := h; exact ⟨f, _, q2, .obj q1 upd_same q3 (q4.mono (SubH.upd f)) q5⟩
  | frz d => cases hn
/-- what stands beside the cells stands still from here on -/
theorem Stt.addF {K : PySem.W.Frag} {cA : Str → Option Addr} {F H : Hp} {κ : List Addr} {M : Ms} (t : Stt K cA F H κ M) {p : Addr} {o : HO} (hp : p ∉ κ) (fp : F p = none) (ho : H p = some o) : Stt K cA (upd F p o) H κ M := by
  refine ⟨fun b u e => ?_, t.nd, t.len, t.tr, fun j b c e1 e2 => ?_⟩
  · by_cases hb : b = p
    · subst hb; rw [upd_same] at e; cases e; exact .inl ho
    · rw [upd_ne hb] at e; exact t.sub b u e
  · have hne : b ≠ p := fun e => hp (e ▸ List.mem_of_getElem? e1)
    have q := t.cell j b c e1 e2
    have up := SubH.upd (o := o) fp
    cases c with
    | lst ds => obtain ⟨f, vs, q1, q2⟩ := q; exact ⟨by rw [upd_ne hne]; exact f, vs, q1, q2.mono up⟩
    | dct kds => obtain ⟨f, kvs, q1, q2, q3⟩ := q; exact ⟨by rw [upd_ne hne]; exact f, kvs, q1, q2, q3.mono up⟩
    | obj c gs => obtain ⟨f, C, dx, fs, q1, q2, q3, q4, q5⟩ := q; exact ⟨by rw [upd_ne hne]; exact f, C, dx, fs, q1, q2, q3, q4.mono up, q5⟩
    | frz d => exact Rep.mono up q
theorem Stt.addC {K : PySem.W.Frag} {cA : Str → Option Addr} {F H : Hp} {κ : List Addr} {M : Ms} (t : Stt K cA F H κ M) {p : Addr} {c : Cell} (hp : p ∉ κ) (hn : ∀ d, c ≠ .frz d) (hc : CellR K cA F H p c) : Stt K cA F H (κ ++ [p]) (M ++ [c]) := by
  refine ⟨t.sub, ?_, by simp [t.len], fun a ha => ?_, fun k a c' e1 e2 => ?_⟩
  · rw [List.nodup_append]
    exact ⟨t.nd, by simp, fun a ha b hb => by
      have : b = p := by simpa using hb
      subst this
      rintro rfl
      exact hp ha⟩
  · rcases List.mem_append.mp ha with ha | ha
    · exact t.tr a ha
    · have : a = p := by simpa using ha
      subst this
      exact hc.some_ hn
  · by_cases hk : k < κ.length
    · rw [List.getElem?_append_left hk] at e1
      rw [List.getElem?_append_left (by rw [← t.len]; exact hk)] at e2
      exact t.cell k a c' e1 e2
    · rw [List.getElem?_append_right (by omega)] at e1
      rw [List.getElem?_append_right (by rw [← t.len]; omega)] at e2
      have h1 : k - κ.length = 0 := by
        obtain ⟨hl, _⟩ := List.getElem?_eq_some_iff.mp e1
        simpa using hl
      rw [h1] at e1
      rw [← t.len, h1] at e2
      simp at e1 e2
      subst e1 e2
      exact hc
theorem Stt.fresh {K : PySem.W.Frag} {cA : Str → Option Addr} {F H : Hp} {κ : List Addr} {M : Ms} (t : Stt K cA F H κ M) {p : Addr} (hp : H p = none) : p ∉ κ := fun hm => by
  obtain ⟨o, e⟩ := t.tr p hm
  rw [hp] at e; cases e
theorem de_tree {f : CF} (h : DF W N sc a f) : DE W N sc a (eTree f) := by
  intro X gd
  refine PE.imp (h X gd) fun σ H Q h => ?_
  obtain ⟨env, M, s, M', F, κ, e, t, er, k⟩ := h
  unfold eTree at e
  split at e
  rotate_left
  · cases e
  rename_i c M1 e1
  simp only [Option.some.injEq, Prod.mk.injEq] at e
  obtain ⟨rfl, rfl⟩ := e
  refine ⟨env, M, c, M1, F, κ, e1, t, er, fun F1 κ1 H1 p x1 t1 hp hn r => ?_⟩
  obtain ⟨fp, o, ho, rep⟩ := r.tree hn
  exact k _ κ1 H1 (.ref p) (x1.trans (.sub' (SubH.upd fp))) (t1.addF hp fp ho) rep
theorem notFrz_ne {c : Cell} (h : notFrz c = true) : ∀ d, c ≠ .frz d := fun d e => by subst e; cases h
theorem de_live {f : CF} (h : DF W N sc a f) : DE W N sc a (eLive f) := by
  intro X gd
  refine PE.imp (h X gd) fun σ H Q h => ?_
  obtain ⟨env, M, s, M', F, κ, e, t, er, k⟩ := h
  unfold eLive at e
  split at e
  rotate_left
  · cases e
  rename_i c M1 e1
  simp only [Option.some.injEq, Prod.mk.injEq] at e
  obtain ⟨rfl, rfl⟩ := e
  refine ⟨env, M, c, M1, F, κ, e1, t, er, fun F1 κ1 H1 p x1 t1 hp hn r => ?_⟩
  refine k _ (κ1 ++ [p]) H1 (.ref p) (x1.trans ⟨.refl _, [p], rfl⟩) (t1.addC hp (notFrz_ne hn) r) ⟨p, ?_, rfl⟩
  rw [← t1.len]
  simp
def cLst (f : AF) : CF := fun env M => match f env M with
  | some (ss, M1) => match frzL ss M1 with
    | some (ds, M2) => if ds.length ≤ sizeLine then some (.lst ds, M2) else none
    | none => none
  | none => none
theorem df_lst (h : DA W N sc es ga) : DF W N sc (.List es pos) (cLst ga) := by
  intro X gd
  refine PE.imp (pe_lst (h X gd)) fun σ H Q h => ?_
  obtain ⟨env, M, s, M', F, κ, e, t, er, k⟩ := h
  unfold cLst at e
  split at e
  rotate_left
  · cases e
  rename_i ss M1 e1
  split at e
  rotate_left
  · cases e
  rename_i ds M2 e2
  split at e
  rotate_left
  · cases e
  rename_i hz
  simp only [Option.some.injEq, Prod.mk.injEq] at e
  obtain ⟨rfl, rfl⟩ := e
  refine ⟨env, M, ss, M1, F, κ, e1, t, er, fun F1 κ1 H1 vs x1 t1 rs => ?_⟩
  obtain ⟨F2, x2, t2, r2⟩ := t1.frzL rs e2
  refine ⟨by rw [r2.length]; exact hz, fun p hp => ?_⟩
  exact k F2 κ1 _ p (x1.trans x2) (t2.new (New.oneH t2.sub hp)) (t2.fresh hp) rfl ⟨t2.sub.none hp, vs, upd_same, r2⟩
/-- {} -/
def cDct0 : CF := fun _ M => some (.dct [], M)
theorem df_dct0 : DF W N sc (.Dict [] [] pos) cDct0 := by
  intro X gd
  refine PE.imp pe_dnewK fun σ H Q h => ?_
  obtain ⟨env, M, s, M', F, κ, e, t, er, k⟩ := h
  simp only [cDct0, Option.some.injEq, Prod.mk.injEq] at e
  obtain ⟨rfl, rfl⟩ := e
  intro p hp
  exact k F κ _ p (.refl _ _) (t.new (New.oneH t.sub hp)) (t.fresh hp) rfl ⟨t.sub.none hp, [], upd_same, rfl, .nil⟩
end
/-! ### targets that change a cell -/
/-- o[i] = v -/
def setCell (M : Ms) (o : S) (i v : D) : Option Ms := match o with
  | .hd k => match M[k]? with
    | some (.lst ds) => match i with
      | .int z => match ixN ds.length z with
        | some j => some (M.set k (.lst (ds.set j v)))
        | none => none
      | _ => none
    | some (.dct kds) => match keyD i with
      | some q => if kds.length < sizeLine then some (M.set k (.dct (putD kds q v))) else none
      | none => none
    | _ => none
  | _ => none
/-- o.f = v -/
def setFld (na : Str → Str → Bool) (M : Ms) (o : S) (f : Str) (v : D) : Option Ms := match o with
  | .hd k => match M[k]? with
    | some (.obj c gs) => if na c f && decide (gs.length < 1000) then some (M.set k (.obj c (putFD f v gs))) else none
    | _ => none
  | _ => none
where
  putFD (f : Str) (v : D) : List (Str × D) → List (Str × D)
    | [] => [(f, v)]
    | (g, x) :: r => if g = f then (g, v) :: r else (g, x) :: putFD f v r
section
variable {K : PySem.W.Frag} {cA : Str → Option Addr} {F H : Hp} {κ : List Addr} {M : Ms}
/-- a cell is changed -/
theorem Stt.setc (t : Stt K cA F H κ M) {k : Nat} {p : Addr} {c c' : Cell} {o : HO} (hk : κ[k]? = some p) (hc : M[k]? = some c) (hF : F p = none) (hn : CellR K cA F (upd H p o) p c') : Stt K cA F (upd H p o) κ (M.set k c') := by
  refine ⟨fun b u e => ?_, t.nd, by rw [List.length_set]; exact t.len, fun b hb => ?_, fun j b c2 e1 e2 => ?_⟩
  · have : b ≠ p := by rintro rfl; rw [hF] at e; cases e
    rw [upd_ne this]; exact t.sub b u e
  · by_cases e : b = p
    · subst e; exact ⟨o, upd_same⟩
    · obtain ⟨u, q⟩ := t.tr b hb; exact ⟨u, by rw [upd_ne e]; exact q⟩
  · by_cases hj : k = j
    · subst hj
      have hl : k < M.length := (List.getElem?_eq_some_iff.mp hc).1
      rw [List.getElem?_set_self hl] at e2
      cases e2
      rw [hk] at e1; cases e1
      exact hn
    · rw [List.getElem?_set_ne hj] at e2
      have hne : b ≠ p := fun z => hj (nodup_get t.nd hk (by rw [← z]; exact e1))
      have q := t.cell j b c2 e1 e2
      cases c2 with
      | lst ds => obtain ⟨f, vs, q1, q2⟩ := q; exact ⟨f, vs, by rw [upd_ne hne]; exact q1, q2⟩
      | dct kds => obtain ⟨f, kvs, q1, q2⟩ := q; exact ⟨f, kvs, by rw [upd_ne hne]; exact q1, q2⟩
      | obj c gs => obtain ⟨f, C, dx, fs, q0, q1, q2⟩ := q; exact ⟨f, C, dx, fs, q0, by rw [upd_ne hne]; exact q1, q2⟩
      | frz d => exact q
end
def setStar (X : Cx) : TSet := fun o i v H Q => ∃ r, PSet X r ∧ r o i v H Q
theorem PSet.star (X : Cx) : PSet X (setStar X) := fun pins s σ H o i v ov iv u Q I ro ri rv ⟨r, h, q⟩ => h pins s σ H o i v ov iv u Q I ro ri rv q
theorem putF_rep {K : PySem.W.Frag} {cA : Str → Option Addr} {F : Hp} {v : V} {d : D} (f : Str) (q : Rep K cA F v d) : ∀ {fs : List (Str × V)} {gs : List (Str × D)}, fs.map (·.1) = gs.map (·.1) → Reps K cA F (fs.map (·.2)) (gs.map (·.2)) →
    (putF f v fs).map (·.1) = (setFld.putFD f d gs).map (·.1) ∧ Reps K cA F ((putF f v fs).map (·.2)) ((setFld.putFD f d gs).map (·.2))
  | [], [], _, _ => ⟨rfl, .cons q .nil⟩
  | [], _ :: _, e, _ => by simp at e
  | _ :: _, [], e, _ => by simp at e
  | (g, x) :: fs, (g', y) :: gs, e, r => by
    simp only [List.map_cons, List.cons.injEq] at e
    obtain ⟨rfl, e⟩ := e
    cases r with
    | cons r rr =>
      obtain ⟨i1, i2⟩ := putF_rep f q e rr
      by_cases hk : g = f
      · simp only [putF, setFld.putFD, hk, if_true, List.map_cons]
        exact ⟨by rw [e], .cons q rr⟩
      · simp only [putF, setFld.putFD, hk, if_false, List.map_cons]
        exact ⟨by rw [i1], .cons r i2⟩
theorem putFD_mem {f g : Str} {d : D} : ∀ {gs : List (Str × D)}, g ∈ (setFld.putFD f d gs).map (·.1) → g = f ∨ g ∈ gs.map (·.1)
  | [], h => .inl (by simpa [setFld.putFD] using h)
  | (x, y) :: gs, h => by
    unfold setFld.putFD at h
    split at h
    · exact .inr h
    · rcases List.mem_cons.mp (show g ∈ x :: (setFld.putFD f d gs).map (·.1) from h) with e | e
      · exact .inr (by rw [e]; exact List.mem_cons_self)
      · rcases putFD_mem (f := f) (d := d) (gs := gs) e with e | e
        · exact .inl e
        · exact .inr (List.mem_cons_of_mem _ e)
/-- the targets' functions -/
def gSubD (fo fi : EF) : GF := fun s env M => match fo env M with
  | some (o, M1) => match fi env M1 with
    | some (i, M2) => match view M2 i with
      | some di => match frz M2 s with
        | some (d, M3) => match setCell M3 o di d with
          | some M4 => some (env, M4)
          | none => none
        | none => none
      | none => none
    | none => none
  | none => none
section
variable {W : Wd} {N : List Str} {sc : Scp} {a b c : Expr} {fa fb fc : EF} {es : List Expr} {st : Stmt} {sts : List Stmt} {pos : Pos}
/-- what stands in the context of a store by values -/
theorem set_ok {X : Cx} (gd : Gd W N sc X) {F H : Hp} {κ : List Addr} {M M' : Ms} {o : S} {di d : D} {vo vi v : V} {Q : Hp → Prop} (t : Stt W.K W.cA F H κ M) (ro : SRep W.K W.cA F κ vo o) (ri : VRep W.K W.cA F H vi di) (rv : Rep W.K W.cA F v d) (e : setCell M o di d = some M')
    (k : ∀ H', Stt W.K W.cA F H' κ M' → Q H') : setStar X vo vi v H Q := by
  unfold setCell at e
  split at e
  rotate_left
  · cases e
  rename_i kk
  obtain ⟨p, hk, rfl⟩ := ro
  split at e
  · rename_i ds hc
    split at e
    rotate_left
    · cases e
    rename_i z
    split at e
    rotate_left
    · cases e
    rename_i j hj
    cases e
    obtain ⟨f, vs, q1, q2⟩ := t.cell kk p _ hk hc
    obtain rfl := ri.int_
    refine ⟨_, set_list, p, vs, z, j, rfl, rfl, q1, by rw [q2.length]; exact hj, ?_⟩
    exact k _ (t.setc hk hc f ⟨f, _, upd_same, q2.set rv j⟩)
  · rename_i kds hc
    split at e
    rotate_left
    · cases e
    rename_i q hq
    split at e
    rotate_left
    · cases e
    rename_i hz
    cases e
    obtain ⟨f, kvs, q1, q2, q3⟩ := t.cell kk p _ hk hc
    obtain rfl := keyD_rep ri hq
    have hl : kvs.length = kds.length := by simpa using congrArg List.length q2
    refine ⟨_, set_dict gd.hu, p, _, rfl, DPut.k q1 (by rw [hl]; exact hz), ?_⟩
    obtain ⟨p1, p2⟩ := put_rep (k := q) q2 q3 rv
    exact k _ (t.setc hk hc f ⟨f, _, upd_same, p1, p2⟩)
  · cases e
theorem assign_Sub_eq {o i : Expr} {pos : Pos} (h : notSl i = true) (env : Env) : ∀ v, assign (.Subscript o i pos) env v = (do
      let ov ← holding [v] (eval o env)
      let iv ← holding [v, ov] (eval i env)
      standAt pos
      holding [v, ov, iv] (setItem ov iv v)
      release [v, ov, iv] []) := by
  intro v
  cases i <;> first | rfl | cases h
theorem dg_sub (hs : notSl b = true) (ha : DE W N sc a fa) (hb : DE W N sc b fb) : DG W N sc (.Subscript a b pos) (gSubD fa fb) := by
  intro X gd
  refine PG.imp (pg_sub (ha X gd) (hb X gd) (PSet.star X) (assign_Sub_eq hs X.env)) fun v σ H Q h => ?_
  obtain ⟨s, env, M, env', M', F, κ, e, r, t, er, k⟩ := h
  unfold gSubD at e
  split at e
  rotate_left
  · cases e
  rename_i o M1 e1
  split at e
  rotate_left
  · cases e
  rename_i i M2 e2
  split at e
  rotate_left
  · cases e
  rename_i di e3
  split at e
  rotate_left
  · cases e
  rename_i d M3 e4
  split at e
  rotate_left
  · cases e
  rename_i M4 e5
  simp only [Option.some.injEq, Prod.mk.injEq] at e
  obtain ⟨rfl, rfl⟩ := e
  refine ⟨env, M, o, M1, F, κ, e1, t, er, fun F1 κ1 H1 vo x1 t1 ro => ?_⟩
  refine ⟨env, M1, i, M2, F1, κ1, e2, t1, er.ext x1, fun F2 κ2 H2 vi x2 t2 ri => ?_⟩
  obtain ⟨F3, x3, t3, r3⟩ := t2.frz (r.ext (x1.trans x2)) e4
  have vr : VRep W.K W.cA F3 H2 vi di := by
    cases t2.view ri e3 with
    | rep q => exact .rep (q.mono x3.sub)
    | lst q r => exact .lst q (r.mono x3.sub)
    | dct q e r => exact .dct q e (r.mono x3.sub)
    | obj c q e r n => exact .obj c q e (r.mono x3.sub) n
  refine set_ok gd t3 ((ro.ext x2).ext x3) vr r3 e5 fun H4 t4 => ?_
  have xx := (x1.trans x2).trans x3
  exact k F3 κ2 H4 σ xx t4 (er.ext xx)
/-- o.f = .. -/
def gFldD (na : Str → Str → Bool) (x : Str) (fo : EF) : GF := fun s env M => match fo env M with
  | some (o, M1) => match frz M1 s with
    | some (d, M2) => match setFld na M2 o x d with
      | some M3 => some (env, M3)
      | none => none
    | none => none
  | none => none
def gAttr (K : PySem.W.Frag) (to : TE) (f : Str) : TG := fun v σ H Q => to σ H fun x H1 => ∃ a C dx fs, x = .ref a ∧ H1 a = some (.ins C dx fs) ∧ Cls K C ∧ NoAttr K C f ∧ fs.length < 1000 ∧ Q σ (upd H1 a (.ins C dx (putF f v fs)))
theorem pg_fld {X : Cx} {o : Expr} {to : TE} {f : Str} (ho : PE X o to) : PG X (.Attribute o f pos) (gAttr X.K to f) := by
  refine ⟨fun pins s σ H v u Q I r h => ?_⟩
  show wpAny _ _ (do
    let ov ← holding [u] (eval o X.env)
    standAt pos.atName
    holding [u, ov] (setAttr ov f u)
    release [u, ov] []) _ _ _
  refine wpAny_bind (wpAny_holding (thn (ho.run pins s σ H _ I h) fun ov s1 ⟨x, H1, I1, r1, a, C, dx, fs, ex, ea, c, n, l, q⟩ => ?_))
  subst ex
  obtain rfl : ov = Value.ref a := r1
  refine wpAny_bind (wpAny_standAt (wpAny_bind (wpAny_holding (setattr_ok I1 ea c n l r fun s2 I2 => ?_))))
  exact wpAny_release ⟨σ, _, I2, q⟩
/-- what the classes' own names say: na c f, an instance of c may have a field f -/
def NaOk (W : Wd) (na : Str → Str → Bool) : Prop := ∀ c f C, na c f = true → W.cA c = some C → NoAttr W.K C f
theorem dg_fld {na : Str → Str → Bool} {x : Str} (hna : NaOk W na) (ha : DE W N sc a fa) : DG W N sc (.Attribute a x pos) (gFldD na x fa) := by
  intro X gd
  refine PG.imp (pg_fld (f := x) (ha X gd)) fun v σ H Q h => ?_
  obtain ⟨s, env, M, env', M', F, κ, e, r, t, er, k⟩ := h
  unfold gFldD at e
  split at e
  rotate_left
  · cases e
  rename_i o M1 e1
  split at e
  rotate_left
  · cases e
  rename_i d M2 e2
  split at e
  rotate_left
  · cases e
  rename_i M3 e3
  simp only [Option.some.injEq, Prod.mk.injEq] at e
  obtain ⟨rfl, rfl⟩ := e
  refine ⟨env, M, o, M1, F, κ, e1, t, er, fun F1 κ1 H1 vo x1 t1 ro => ?_⟩
  obtain ⟨F2, x2, t2, r2⟩ := t1.frz (r.ext x1) e2
  have ro2 := ro.ext x2
  unfold setFld at e3
  split at e3
  rotate_left
  · cases e3
  rename_i kk
  obtain ⟨p, hk, rfl⟩ := ro2
  split at e3
  rotate_left
  · cases e3
  rename_i c gs hc
  split at e3
  rotate_left
  · cases e3
  rename_i hn
  cases e3
  simp only [Bool.and_eq_true, decide_eq_true_eq] at hn
  obtain ⟨f0, C, dx, fs, q0, q1, q2, q3, q4⟩ := t2.cell kk p _ hk hc
  have hl : fs.length = gs.length := by simpa using congrArg List.length q2
  have hnn := hna c x C hn.1 q0
  obtain ⟨p1, p2⟩ := putF_rep x r2 q2 q3
  refine ⟨p, C, dx, fs, rfl, q1, by rw [gd.K]; exact W.cls c C q0, by rw [gd.K]; exact hnn, by rw [hl]; exact hn.2, ?_⟩
  have xx := x1.trans x2
  refine k F2 κ1 _ σ xx (t2.setc hk hc f0 ⟨f0, C, dx, _, q0, upd_same, p1, p2, fun g hg => ?_⟩) (er.ext xx)
  rcases putFD_mem hg with e | e
  · rw [e]; exact hnn
  · exact q4 g e
/-! ### assignments -/
def sAsg (fa : EF) (g : GF) : SF := fun env M => match fa env M with
  | some (s, M1) => match g s env M1 with
    | some (e, M2) => some (.nx e M2)
    | none => none
  | none => none
theorem tSv_asg {g : GF} : ∀ D σ H, tSv W (sAsg fa g) D σ H → tAsg (tEv W fa) (tGv W g) D σ H := by
  intro D σ H h
  obtain ⟨env, M, o, F, κ, e, t, er, k⟩ := h
  unfold sAsg at e
  split at e
  rotate_left
  · cases e
  rename_i s M1 e1
  split at e
  rotate_left
  · cases e
  rename_i e' M2 e2
  simp only [Option.some.injEq] at e
  subst e
  refine ⟨env, M, s, M1, F, κ, e1, t, er, fun F1 κ1 H1 v x1 t1 r => ?_⟩
  exact ⟨s, env, M1, e', M2, F1, κ1, e2, r, t1, er.ext x1, fun F2 κ2 H2 σ2 x2 t2 er2 => k F2 κ2 H2 σ2 (x1.trans x2) t2 er2⟩
theorem assign_one {e : Expr} (h : notStar e = true) (env : Env) : (assignEach [e] env).map (·.2) = [assign e env] := assign_cons h [] env
def notName : Expr → Bool
  | .Name _ _ => false
  | _ => true
theorem swaps_noName {t : Expr} (h : notName t = true) (e : Expr) (l : Nat) (env : Env) : swapsWith e (some t) l env = pure false := by
  cases e <;> first | rfl | (cases t <;> first | rfl | cases h)
def notTup : Expr → Bool
  | .Tuple _ _ _ => false
  | .List _ _ => false
  | _ => true
theorem stores_noT {t : Expr} (h : notTup t = true) (e : Expr) (env : Env) : swappedStores [t] e env = pure none := by
  unfold swappedStores
  cases t <;> first | (cases h; done) | rfl
theorem stores_noV {t e : Expr} (h : notTup e = true) (env : Env) : swappedStores [t] e env = pure none := by
  unfold swappedStores
  cases t <;> first | rfl | (cases e <;> first | (cases h; done) | rfl)
/-- target = e, the target no name or e no comprehension -/
theorem ds_asg {g : GF} (hs : notStar a = true) (hsw : notName a = true ∨ notComp b = true) (hst : ∀ env, env.scope = sc.toScope → swappedStores [a] b env = pure none) (hg : DG W N sc a g) (hb : DE W N sc b fb) : DS W N sc (.Assign [a] b pos) (sAsg fb g) := by
  intro X gd
  refine PS.imp (ps_asg (hb X gd) (hg X gd) ?_ (hst X.env gd.eS) (assign_one hs _)) (tSv_asg (g := g))
  show swapsWith b (some a) pos.line X.env = pure false
  rcases hsw with h | h
  · exact swaps_noName h _ _ _
  · exact swaps_no h _ _ _
/-- a, b = x, y with plain local names -/
def sPar (i j : Nat) (ga : AF) : SF := fun env M => match ga env M with
  | some ([s, s'], M1) => if i < env.length ∧ j < env.length then some (.nx ((env.set i (some s)).set j (some s')) M1) else none
  | _ => none
def pureOf {α : Type} : Sem α → Option α
  | .pure a => some a
  | _ => none
theorem pureOf_eq {α : Type} {t : Sem α} {a : α} (h : pureOf t = some a) : t = pure a := by
  cases t <;> first | (cases h; rfl) | cases h
def envD (sc : Scope) : Env := { scope := sc, locals := 0, globals := 0, cells := [] }
theorem stores_env {sc : Scope} {ts : List Expr} {e : Expr} {env : Env} (h : env.scope = sc) : swappedStores ts e env = swappedStores ts e (envD sc) := by
  subst h
  unfold swappedStores Env.blockKind Env.kindOf envD
  rfl
theorem swaps_env {sc : Scope} {t : Option Expr} {e : Expr} {l : Nat} {env : Env} (h : env.scope = sc) : swapsWith e t l env = swapsWith e t l (envD sc) := by
  subst h
  unfold swapsWith Env.blockKind Env.kindOf envD
  rfl
theorem stores_of {ts : List Expr} {e : Expr} {r : Option (List Str)} (h : pureOf (swappedStores ts e (envD sc.toScope)) = some r) (env : Env) (he : env.scope = sc.toScope) : swappedStores ts e env = pure r := (stores_env he).trans (pureOf_eq h)
theorem swaps_of {t : Option Expr} {e : Expr} {l : Nat} {r : Bool} (h : pureOf (swapsWith e t l (envD sc.toScope)) = some r) (env : Env) (he : env.scope = sc.toScope) : swapsWith e t l env = pure r := (swaps_env he).trans (pureOf_eq h)
theorem ds_par {i j k k2 : Nat} {x y : Str} {px py pt pt2 : Pos} {ga : AF} (hi : N[i]? = some x) (hj : N[j]? = some y) (hij : i ≠ j) (hx : sc.names.lookup x = some .local) (hy : sc.names.lookup y = some .local) (hga : DA W N sc [a, b] ga)
    (hw : pureOf (swappedStores [.Tuple [.Name x px, .Name y py] k pt] (.Tuple [a, b] k2 pt2) (envD sc.toScope)) = some (some [x, y])) :
    DS W N sc (.Assign [.Tuple [.Name x px, .Name y py] k pt] (.Tuple [a, b] k2 pt2) pos) (sPar i j ga) := by
  intro X gd
  refine PS.imp (ps_par (i := i) (j := j) gd.calm (by rw [gd.eN]; exact gd.nd) (by rw [gd.eN]; exact hi) (by rw [gd.eN]; exact hj) hij (by rw [gd.eS]; exact hx) (by rw [gd.eS]; exact hy) (hga X gd) (stores_of hw _ gd.eS) rfl) fun D σ H h => ?_
  obtain ⟨env, M, o, F, κ, e, t, er, q⟩ := h
  unfold sPar at e
  split at e
  rotate_left
  · cases e
  rename_i s s' M1 e1
  split at e
  rotate_left
  · cases e
  simp only [Option.some.injEq] at e
  subst e
  refine ⟨env, M, _, M1, F, κ, e1, t, er, fun F1 κ1 H1 vs x1 t1 rs => ?_⟩
  cases rs with
  | cons r1 rs =>
    cases rs with
    | cons r2 rs =>
      cases rs
      exact ⟨_, _, rfl, q F1 κ1 H1 _ x1 t1 (((er.ext x1).set r1).set r2)⟩
/-- a, b, c = x, y, z -/
def sPar3 (i j l : Nat) (ga : AF) : SF := fun env M => match ga env M with
  | some ([s, s', s''], M1) => if i < env.length ∧ j < env.length ∧ l < env.length then some (.nx (((env.set i (some s)).set j (some s')).set l (some s'')) M1) else none
  | _ => none
theorem ds_par3 {i j l k k2 : Nat} {x y z : Str} {px py pz pt pt2 : Pos} {ga : AF} (hi : N[i]? = some x) (hj : N[j]? = some y) (hl : N[l]? = some z) (hij : i ≠ j) (hil : i ≠ l) (hjl : j ≠ l) (hx : sc.names.lookup x = some .local) (hy : sc.names.lookup y = some .local) (hz : sc.names.lookup z = some .local)
    (hga : DA W N sc [a, b, c] ga) (hw : pureOf (swappedStores [.Tuple [.Name x px, .Name y py, .Name z pz] k pt] (.Tuple [a, b, c] k2 pt2) (envD sc.toScope)) = some (some [x, y, z])) :
    DS W N sc (.Assign [.Tuple [.Name x px, .Name y py, .Name z pz] k pt] (.Tuple [a, b, c] k2 pt2) pos) (sPar3 i j l ga) := by
  intro X gd
  refine PS.imp (ps_par3 (i := i) (j := j) (l := l) gd.calm (by rw [gd.eN]; exact gd.nd) (by rw [gd.eN]; exact hi) (by rw [gd.eN]; exact hj) (by rw [gd.eN]; exact hl) hij hil hjl (by rw [gd.eS]; exact hx) (by rw [gd.eS]; exact hy) (by rw [gd.eS]; exact hz) (hga X gd) (stores_of hw _ gd.eS) rfl) fun D σ H h => ?_
  obtain ⟨env, M, o, F, κ, e, t, er, q⟩ := h
  unfold sPar3 at e
  split at e
  rotate_left
  · cases e
  rename_i s s' s'' M1 e1
  split at e
  rotate_left
  · cases e
  simp only [Option.some.injEq] at e
  subst e
  refine ⟨env, M, _, M1, F, κ, e1, t, er, fun F1 κ1 H1 vs x1 t1 rs => ?_⟩
  cases rs with
  | cons r1 rs =>
    cases rs with
    | cons r2 rs =>
      cases rs with
      | cons r3 rs =>
        cases rs
        exact ⟨_, _, _, rfl, q F1 κ1 H1 _ x1 t1 ((((er.ext x1).set r1).set r2).set r3)⟩
end
end G
/-! Stores by an operator; loops. -/
namespace G
open PySem L2
def ipStar (X : Cx) (op : Operator) : TIp := fun x y H Q => ∃ r, OpR X (inplaceOp op) r ∧ r x y H Q
theorem PIp.star (X : Cx) (op : Operator) : PIp X op (ipStar X op) := fun pins s σ H x y v u Q I rx ry ⟨r, h, q⟩ => h pins s σ H x y v u Q I rx ry q
theorem InOp.star (X : Cx) (op : Operator) : InOp X op (ipStar X op) := fun pins s σ H x y v u Q I rx ry ⟨r, h, q⟩ => h pins s σ H x y v u Q I rx ry q
/-- name op= e: a number or a text; a list in a cell is made longer -/
def sAug (i : Nat) (g : D → D → Option D) (fa : EF) : SF := fun env M => match env[i]? with
  | some (some (.d x)) => match fa env M with
    | some (s, M1) => match view M1 s with
      | some y => match g x y with
        | some r => some (.nx (env.set i (some (.d r))) M1)
        | none => none
      | none => none
    | none => none
  | _ => none
/-- .. on data that are no lists -/
def IpS (op : Operator) (g : D → D → Option D) : Prop := OpS (inplaceOp op) g
def sAugL (i : Nat) (fa : EF) : SF := fun env M => match env[i]? with
  | some (some (.hd k)) => match fa env M with
    | some (s, M1) => match view M1 s with
      | some (.lst zs) => match M1[k]? with
        | some (.lst xs) => if xs.length + zs.length ≤ sizeLine then some (.nx env (M1.set k (.lst (xs ++ zs)))) else none
        | _ => none
      | _ => none
    | none => none
  | _ => none
/-- either -/
def sAugAny (i : Nat) (g : D → D → Option D) (fa : EF) : SF := fun env M => match env[i]? with
  | some (some (.d _)) => sAug i g fa env M
  | some (some (.hd _)) => sAugL i fa env M
  | _ => none
section
variable {W : Wd} {N : List Str} {sc : Scp} {a b c : Expr} {fa fb fc : EF} {es : List Expr} {st : Stmt} {sts : List Stmt} {pos : Pos}
theorem ds_aug {i : Nat} {x : Str} {op : Operator} {g : D → D → Option D} {p : Pos} (hi : N[i]? = some x) (hx : L2.Loc sc.toScope x) (hf : sc.fs x = true ∨ sc.names.lookup x = some .local) (ho : OpS (inplaceOp op) g) (hl : op = .Add) (ha : DE W N sc a fa) : DS W N sc (.AugAssign (.Name x p) op a pos) (sAugAny i g fa) := by
  intro X gd
  refine PS.imp (ps_aug (i := i) (by rw [gd.eN]; exact gd.nd) (by rw [gd.eN]; exact hi) (by rw [gd.eS]; exact hx) (ha X gd) (PIp.star X op) (by rw [gd.eS]; exact hf.imp_left (gd.fn x))) fun D σ H h => ?_
  obtain ⟨env, M, o, F, κ, e, t, er, q⟩ := h
  unfold sAugAny at e
  split at e
  · unfold sAug at e
    split at e
    rotate_left
    · cases e
    rename_i dx hdx
    split at e
    rotate_left
    · cases e
    rename_i s M1 e1
    split at e
    rotate_left
    · cases e
    rename_i dy e2
    split at e
    rotate_left
    · cases e
    rename_i r e3
    simp only [Option.some.injEq] at e
    subst e
    obtain ⟨vx, hvx, rx⟩ := er.at_ i _ hdx
    refine ⟨vx, hvx, env, M, s, M1, F, κ, e1, t, er, fun F1 κ1 H1 vy x1 t1 ry => ?_⟩
    have rx1 := rx.ext x1
    exact ho W N sc X gd F1 H1 vx vy dx dy r t1.sub (.rep rx1) (t1.view ry e2) e3 _ fun v F2 H2 n rv => q F2 κ1 H2 _ (x1.trans (.sub' n.fr)) (t1.new n) ((er.ext (x1.trans (.sub' n.fr))).set rv)
  · unfold sAugL at e
    split at e
    rotate_left
    · cases e
    rename_i k hdx
    split at e
    rotate_left
    · cases e
    rename_i s M1 e1
    split at e
    rotate_left
    · cases e
    rename_i zs e2
    split at e
    rotate_left
    · cases e
    rename_i xs e3
    split at e
    rotate_left
    · cases e
    rename_i hz
    simp only [Option.some.injEq] at e
    subst e
    obtain ⟨vx, hvx, rx⟩ := er.at_ i _ hdx
    refine ⟨vx, hvx, env, M, s, M1, F, κ, e1, t, er, fun F1 κ1 H1 vy x1 t1 ry => ?_⟩
    obtain ⟨p, hk, rfl⟩ := rx.ext x1
    obtain ⟨f, vs, q1, q2⟩ := t1.cell k p _ hk e3
    obtain ⟨p2, ws, rfl, q3, q4⟩ := (t1.view ry e2).lst_ t1.sub
    subst hl
    refine ⟨_, iop_ext, p, p2, vs, ws, rfl, rfl, q1, q3, by rw [q2.length, q4.length]; exact hz, ?_⟩
    have t2 := t1.setc hk e3 f (c' := .lst (xs ++ zs)) (o := .lst (vs ++ ws)) ⟨f, _, upd_same, q2.append q4⟩
    refine q F1 κ1 _ _ x1 t2 ?_
    have er1 := er.ext x1
    have := er1.set (i := i) (v := .ref p) (s := .hd k) ⟨p, hk, rfl⟩
    have hs : env.set i (some (.hd k)) = env := by
      apply List.ext_getElem?
      intro j
      by_cases hj : i = j
      · subst hj
        obtain ⟨hl, _⟩ := List.getElem?_eq_some_iff.mp hdx
        rw [List.getElem?_set_self hl, hdx]
      · rw [List.getElem?_set_ne hj]
    rw [hs] at this
    exact this
  · cases e
theorem ds_augN {i : Nat} {x : Str} {op : Operator} {g : D → D → Option D} {p : Pos} (hi : N[i]? = some x) (hx : L2.Loc sc.toScope x) (hf : sc.fs x = true ∨ sc.names.lookup x = some .local) (ho : OpS (inplaceOp op) g) (ha : DE W N sc a fa) : DS W N sc (.AugAssign (.Name x p) op a pos) (sAug i g fa) := by
  intro X gd
  refine PS.imp (ps_aug (i := i) (by rw [gd.eN]; exact gd.nd) (by rw [gd.eN]; exact hi) (by rw [gd.eS]; exact hx) (ha X gd) (PIp.star X op) (by rw [gd.eS]; exact hf.imp_left (gd.fn x))) fun D σ H h => ?_
  obtain ⟨env, M, o, F, κ, e, t, er, q⟩ := h
  unfold sAug at e
  split at e
  rotate_left
  · cases e
  rename_i dx hdx
  split at e
  rotate_left
  · cases e
  rename_i s M1 e1
  split at e
  rotate_left
  · cases e
  rename_i dy e2
  split at e
  rotate_left
  · cases e
  rename_i r e3
  simp only [Option.some.injEq] at e
  subst e
  obtain ⟨vx, hvx, rx⟩ := er.at_ i _ hdx
  refine ⟨vx, hvx, env, M, s, M1, F, κ, e1, t, er, fun F1 κ1 H1 vy x1 t1 ry => ?_⟩
  have rx1 := rx.ext x1
  exact ho W N sc X gd F1 H1 vx vy dx dy r t1.sub (.rep rx1) (t1.view ry e2) e3 _ fun v F2 H2 n rv => q F2 κ1 H2 _ (x1.trans (.sub' n.fr)) (t1.new n) ((er.ext (x1.trans (.sub' n.fr))).set rv)
/-! ### o[i] op= e -/
def getStar (X : Cx) : V → V → Hp → VK → Prop := fun o i H Q => ∃ r, PGet X r ∧ r o i H Q
theorem PGet.star (X : Cx) : PGet X (getStar X) := fun pins s σ H o i ov iv Q I ro ri ⟨r, h, q⟩ => h pins s σ H o i ov iv Q I ro ri q
theorem get_list {X : Cx} : PGet X (fun x y H Q => ∃ p xs i v, x = .ref p ∧ y = .int i ∧ 0 ≤ i ∧ SqL X.K H p xs ∧ atI xs i = some v ∧ Q v H) := by
  intro pins s σ H x y v u Q I rx ry h
  obtain ⟨p, xs, i, z, rfl, rfl, h0, hq, he, q⟩ := h
  cases rx
  obtain ⟨t, rfl⟩ := ry
  obtain ⟨its, r, pl, hz⟩ := I.list hq
  obtain ⟨j, h1, h2, h3, h4, h5⟩ := atI_get he
  obtain ⟨w, ew, rw'⟩ := r.get h2
  have hl := r.length
  have hn := line63
  have fin : EP X pins σ Q w s := ⟨z, H, I, rw', q⟩
  have hj : i.toNat = j := by
    rw [seqIndex_of h0 h5] at h1
    exact Option.some.inj h1
  exact wpAny_getItem_list pl.isList h0 (by omega) (by rw [hj]; simpa using ew) fin
theorem get_dict {X : Cx} (hu : X.A.units + 1 < cLine) : PGet X (fun x y H Q => ∃ a v, x = .ref a ∧ DGet H a y (some v) ∧ Q v H) := by
  intro pins s σ H x y v u Q I rx ry h
  obtain ⟨a, z, rfl, g, q⟩ := h
  cases rx
  exact d_getItem hu I g ry fun w' s3 I3 rw' => ⟨z, H, I3, rw', q⟩
/-- the item at i of what is changed in place -/
def augGet (d i : D) : Option D := match d, i with
  | .lst ds, .int z => if 0 ≤ z then atI ds z else none
  | .dct kds, y => match keyD y with
    | some k => valD kds k
    | none => none
  | _, _ => none
def sAugS (g : D → D → Option D) (fo fi fe : EF) : SF := fun env M => match fo env M with
  | some (o, M1) => match fi env M1 with
    | some (i, M2) => match view M2 o with
      | some d => match view M2 i with
        | some di => match augGet d di with
          | some x => match fe env M2 with
            | some (s, M3) => match view M3 s with
              | some y => match g x y with
                | some z => match setCell M3 o di z with
                  | some M4 => some (.nx env M4)
                  | none => none
                | none => none
              | none => none
            | none => none
          | none => none
        | none => none
      | none => none
    | none => none
  | none => none
theorem aug_Sub_eq {i : Expr} (h : notSl i = true) : ∀ ov iv new, augStore i ov iv new = (do holding [new, ov, iv] (setItem ov iv new); release [new, ov, iv] []; pure .next) := by
  intro ov iv new
  cases i <;> first | rfl | cases h
theorem keyD_view {K : PySem.W.Frag} {cA : Str → Option Addr} {F H F' H' : Hp} {v : V} {d : D} (hs : SubH F F') (hn : Sub H H') (h : VRep K cA F H v d) (k : ∀ ds, d ≠ .lst ds) (k2 : ∀ ds, d ≠ .dct ds) (k3 : ∀ c gs, d ≠ .obj c gs) : VRep K cA F' H' v d := by
  cases h with
  | rep q => exact .rep (q.mono hs)
  | lst q r => exact absurd rfl (k _)
  | dct q e r => exact absurd rfl (k2 _)
  | obj c q e r n => exact absurd rfl (k3 _ _)
theorem augGet_flat {d di x : D} (h : augGet d di = some x) : (∀ ds, di ≠ .lst ds) ∧ (∀ ds, di ≠ .dct ds) ∧ (∀ c gs, di ≠ .obj c gs) := by
  refine ⟨fun ds e => ?_, fun ds e => ?_, fun c gs e => ?_⟩ <;> (subst e; cases d <;> cases h)
theorem ds_augS {op : Operator} {g : D → D → Option D} {tp : Pos} (ho : OpS (inplaceOp op) g) (hs : notSl b = true) (ha : DE W N sc a fa) (hb : DE W N sc b fb) (hc : DE W N sc c fc) : DS W N sc (.AugAssign (.Subscript a b tp) op c pos) (sAugS g fa fb fc) := by
  intro X gd
  refine PS.imp (ps_augS (ha X gd) (hb X gd) (PGet.star X) (hc X gd) (PIp.star X op) (PSet.star X) (aug_Sub_eq hs)) fun D σ H h => ?_
  obtain ⟨env, M, o, F, κ, e, t, er, q⟩ := h
  unfold sAugS at e
  split at e
  rotate_left
  · cases e
  rename_i so M1 e1
  split at e
  rotate_left
  · cases e
  rename_i si M2 e2
  split at e
  rotate_left
  · cases e
  rename_i d e3
  split at e
  rotate_left
  · cases e
  rename_i di e4
  split at e
  rotate_left
  · cases e
  rename_i x e5
  split at e
  rotate_left
  · cases e
  rename_i s M3 e6
  split at e
  rotate_left
  · cases e
  rename_i y e7
  split at e
  rotate_left
  · cases e
  rename_i z e8
  split at e
  rotate_left
  · cases e
  rename_i M4 e9
  simp only [Option.some.injEq] at e
  subst e
  refine ⟨env, M, so, M1, F, κ, e1, t, er, fun F1 κ1 H1 vo x1 t1 ro => ?_⟩
  refine ⟨env, M1, si, M2, F1, κ1, e2, t1, er.ext x1, fun F2 κ2 H2 vi x2 t2 ri => ?_⟩
  have vd := t2.view (ro.ext x2) e3
  have vi' := t2.view ri e4
  -- behind the read
  have go : ∀ vx, Rep W.K W.cA F2 vx x → tEv W fc σ H2 fun y H4 => ipStar X op vx y H4 fun z H5 => setStar X vo vi z H5 fun H6 => D.nx σ H6 := fun vx rx => by
    refine ⟨env, M2, s, M3, F2, κ2, e6, t2, er.ext (x1.trans x2), fun F3 κ3 H3 vy x3 t3 ry => ?_⟩
    refine ho W N sc X gd F3 H3 vx vy x y z t3.sub (.rep (rx.mono x3.sub)) (t3.view ry e7) e8 _ fun vz F4 H4 n rz => ?_
    obtain ⟨k1, k2, k3⟩ := augGet_flat e5
    have xx := x3.trans (.sub' n.fr)
    have xall := (x1.trans x2).trans xx
    have vi4 : VRep W.K W.cA F4 H4 vi di := by
      cases vi' with
      | rep q => exact .rep (q.mono xx.sub)
      | lst q r => exact absurd rfl (k1 _)
      | dct q e r => exact absurd rfl (k2 _)
      | obj c q e r n => exact absurd rfl (k3 _ _)
    exact set_ok gd (t3.new n) ((ro.ext x2).ext xx) vi4 rz e9 fun H6 t6 => q F4 κ3 H6 σ xall t6 (er.ext xall)
  cases d with
  | lst ds =>
    cases di with
    | int zi =>
      have e5 : (if 0 ≤ zi then atI ds zi else none) = some x := e5
      split at e5
      rotate_left
      · cases e5
      rename_i h0
      obtain ⟨p, vs, rfl, hq, rs⟩ := vd.lst_ t2.sub
      obtain rfl := vi'.int_
      obtain ⟨w, hw, rw'⟩ := atI_rep rs e5
      exact ⟨_, get_list, p, vs, zi, w, rfl, rfl, h0, .of hq, hw, go w rw'⟩
    | _ => cases e5
  | dct kds =>
    have e5 : (match keyD di with | some k => valD kds k | none => none) = some x := e5
    split at e5
    rotate_left
    · cases e5
    rename_i kk ek
    obtain ⟨p, kvs, rfl, hq, en, rs⟩ := vd.dct0 t2.sub
    obtain ⟨w, hw, rw'⟩ := (val_rep en rs).1 x e5
    obtain rfl := keyD_rep vi' ek
    exact ⟨_, get_dict gd.hu, p, w, rfl, by rw [← hw]; exact .inl ⟨kvs, kk, hq, rfl, rfl⟩, go w rw'⟩
  | _ => cases e5
/-! ### xs.append(e) -/
def eAppend (fo fe : EF) : EF := fun env M => match fo env M with
  | some (.hd k, M1) => match M1[k]? with
    | some (.lst _) => match fe env M1 with
      | some (s, M2) => match frz M2 s with
        | some (d, M3) => match M3[k]? with
          | some (.lst ds) => if ds.length < sizeLine then some (.d .non, M3.set k (.lst (ds ++ [d]))) else none
          | _ => none
        | none => none
      | none => none
    | _ => none
  | _ => none
theorem few_args {es : List Expr} (h : es.all notStar = true) (hl : es.length < 30) (pos : Pos) (env : Env) : ((backTo pos (starEach es env)).all (fun x => !x.1) && (backToKw pos (keywordEach [] env)).all (fun x => x.1.isSome)
      && decide (es.length + ([] : List Keyword).length + (if ([] : List Keyword).isEmpty then 0 else 1) < 30)) = true := by
  have hall : (backTo pos (starEach es env)).all (fun x => !x.1) = true := by
    have := plain_args h pos env
    rw [List.all_eq_not_any_not]
    simpa using this
  rw [hall]
  simp [keywordEach, backToKw, hl]
theorem de_append {apos : Pos} (hb : notSuper a = true) (hst : notStar b = true) (hline : (apos.endLine == pos.line) = true) (ha : DE W N sc a fa) (hbb : DE W N sc b fb) :
    DE W N sc (.Call (.Attribute a "append" apos) [b] [] pos) (eAppend fa fb) := by
  intro X gd
  have hss : [b].all notStar = true := by simp [hst]
  refine PE.imp (pe_bm PySem.F.plainAttrs_list PySem.F.slot_list_append PySem.F.type_list_append mt_append (ha X gd) (pa_cons (hbb X gd) pa_nil (star_cons hst _ _)) (attr_base hb _ _) (few_args hss (by simp) _ _) hline (star_cons hst _ _) (plain_args (by rfl) _ _)) fun σ H Q h => ?_
  obtain ⟨env, M, s', M', F, κ, e, t, er, k⟩ := h
  unfold eAppend at e
  split at e
  rotate_left
  · cases e
  rename_i kk M1 e1
  split at e
  rotate_left
  · cases e
  rename_i ds0 e2
  split at e
  rotate_left
  · cases e
  rename_i s M2 e3
  split at e
  rotate_left
  · cases e
  rename_i d M3 e4
  split at e
  rotate_left
  · cases e
  rename_i ds e5
  split at e
  rotate_left
  · cases e
  rename_i hz
  simp only [Option.some.injEq, Prod.mk.injEq] at e
  obtain ⟨rfl, rfl⟩ := e
  refine ⟨env, M, _, M1, F, κ, e1, t, er, fun F1 κ1 H1 v x1 t1 r => ?_⟩
  obtain ⟨p, hk, rfl⟩ := r
  obtain ⟨f, vs0, q1, q2⟩ := t1.cell kk p _ hk e2
  refine ⟨.inl ⟨rfl, _, .of q1⟩, ?_⟩
  refine ⟨env, M1, s, M2, F1, κ1, e3, t1, er.ext x1, fun F2 κ2 H2 w x2 t2 rw' => ?_⟩
  obtain ⟨F3, x3, t3, r3⟩ := t2.frz rw' e4
  have hk3 : κ2[kk]? = some p := by
    obtain ⟨_, m, rfl⟩ := x2
    obtain ⟨hl, _⟩ := List.getElem?_eq_some_iff.mp hk
    rw [List.getElem?_append_left hl]; exact hk
  obtain ⟨f3, vs, q3, q4⟩ := t3.cell kk p _ hk3 e5
  refine ⟨p, vs, w, rfl, rfl, q3, by rw [q4.length]; exact hz, ?_⟩
  exact k F3 κ2 _ .non ((x1.trans x2).trans x3) (t3.setc hk3 e5 f3 ⟨f3, _, upd_same, q4.snoc r3⟩) (show Rep W.K W.cA F3 .non .non from .non)
end
end G
/-! What is walked; for, while; comprehensions. -/
namespace G
open PySem L2
abbrev IF := Ev → Ms → Option (List D × Ms)
/-- J yields the data ds -/
def ItOk (W : Wd) (F : Hp) (J : It) (ds : List D) : Prop := ∃ (G : Hp → Prop) (Y : Nat → Hp → V → Hp → Prop), Walk J ds.length G Y ∧ (∀ F1 H, SubH F F1 → SubH F1 H → G H) ∧
  ∀ i H x H' F1 d, ds[i]? = some d → SubH F F1 → SubH F1 H → Y i H x H' → ∃ F2, New F1 H F2 H' ∧ Rep W.K W.cA F2 x d
def tIv (W : Wd) (f : IF) : TI := fun σ H R => ∃ env M ds M' F κ, f env M = some (ds, M') ∧ Stt W.K W.cA F H κ M ∧ EnvR W.K W.cA F κ σ env ∧
  ∀ F' κ' H' J, Ext F κ F' κ' → Stt W.K W.cA F' H' κ' M' → ItOk W F' J ds → R J H'
def DI (W : Wd) (N : List Str) (sc : Scp) (tg e : Expr) (f : IF) : Prop := ∀ X, Gd W N sc X → PI X tg e (tIv W f)
theorem PI.imp {X : Cx} {tg e : Expr} {t t' : TI} (h : PI X tg e t) (i : ∀ σ H Q, t' σ H Q → t σ H Q) : PI X tg e t' := ⟨fun pins s σ H Q I hw => h.run pins s σ H Q I (i σ H Q hw)⟩
def forD (g : GF) (body : SF) : List D → Ev → Ms → Option Out
  | [], env, M => some (.nx env M)
  | d :: ds, env, M => match g (.d d) env M with
    | some (e1, M1) => match body e1 M1 with
      | some (.nx e2 M2) => forD g body ds e2 M2
      | some (.ct e2 M2) => forD g body ds e2 M2
      | some (.bk e2 M2) => some (.nx e2 M2)
      | some (.rt s M2) => some (.rt s M2)
      | none => none
    | none => none
def sFor (fi : IF) (g : GF) (body : SF) : SF := fun env M => match fi env M with
  | some (ds, M1) => forD g body ds env M1
  | none => none
def notSet : Expr → Bool
  | .Set _ _ _ => false
  | _ => true
theorem folded_no {e : Expr} (h : notSet e = true) (env : Env) : ∀ x, foldedSetIterable e env x = pure x := by
  intro x
  unfold foldedSetIterable
  cases e <;> first | rfl | cases h
section
variable {W : Wd} {N : List Str} {sc : Scp} {a b c : Expr} {fa fb fc : EF} {es : List Expr} {st : Stmt} {sts : List Stmt} {pos : Pos}
theorem Gd.never {X : Cx} (gd : Gd W N sc X) : PassesOwn (model X.prog X.w) X.A X.env X.xe := by rw [gd.xe]; exact PassesOwn.never
theorem ds_for {tg it : Expr} {fi : IF} {g : GF} {body : SF} (hs : notSet it = true) (hi : DI W N sc tg it fi) (hg : DG W N sc tg g) (hb : DB W N sc sts body) : DS W N sc (.For tg it sts [] pos) (sFor fi g body) := by
  intro X gd
  refine PS.imp (ps_for gd.never gd.calm (hi X gd) (hg X gd) (hb X gd) (folded_no hs X.env)) fun D σ H h => ?_
  obtain ⟨env, M, o, F, κ, e, t, er, q⟩ := h
  unfold sFor at e
  split at e
  rotate_left
  · cases e
  rename_i ds M1 e1
  refine ⟨env, M, ds, M1, F, κ, e1, t, er, fun F1 κ1 H1 J x1 t1 ok => ?_⟩
  obtain ⟨G, Y, wk, hG, hY⟩ := ok
  refine for_it wk (fun i σ2 H2 => ∃ F2 κ2 env2 M2, Ext F1 κ1 F2 κ2 ∧ Stt W.K W.cA F2 H2 κ2 M2 ∧ EnvR W.K W.cA F2 κ2 σ2 env2 ∧ forD g body (ds.drop i) env2 M2 = some o) ⟨F1, κ1, env, M1, .refl _ _, t1, er.ext x1, e⟩ ?_ ?_ ?_
  · rintro i σ2 H2 _ ⟨F2, κ2, env2, M2, x2, t2, er2, e2⟩
    exact hG F2 H2 x2.sub t2.sub
  · rintro i x σ2 H2 H3 hlt ⟨F2, κ2, env2, M2, x2, t2, er2, e2⟩ hy
    have hd : ds.drop i = ds[i] :: ds.drop (i + 1) := List.drop_eq_getElem_cons hlt
    rw [hd] at e2
    obtain ⟨F3, n3, r3⟩ := hY i H2 x H3 F2 ds[i] (List.getElem?_eq_getElem hlt) x2.sub t2.sub hy
    have x3 : Ext F2 κ2 F3 κ2 := .sub' n3.fr
    unfold forD at e2
    split at e2
    rotate_left
    · cases e2
    rename_i env3 M3 e3
    refine ⟨.d ds[i], env2, M2, env3, M3, F3, κ2, e3, r3, t2.new n3, er2.ext x3, fun F4 κ4 H4 σ4 x4 t4 er4 => ?_⟩
    have xx := (x2.trans x3).trans x4
    split at e2
    · rename_i env5 M5 e5
      exact ⟨env3, M3, _, F4, κ4, e5, t4, er4, fun F5 κ5 H5 σ5 x5 t5 er5 => ⟨F5, κ5, env5, M5, xx.trans x5, t5, er5, e2⟩⟩
    · rename_i env5 M5 e5
      exact ⟨env3, M3, _, F4, κ4, e5, t4, er4, fun F5 κ5 H5 σ5 x5 t5 er5 => ⟨F5, κ5, env5, M5, xx.trans x5, t5, er5, e2⟩⟩
    · rename_i env5 M5 e5
      simp only [Option.some.injEq] at e2
      subst e2
      exact ⟨env3, M3, _, F4, κ4, e5, t4, er4, fun F5 κ5 H5 σ5 x5 t5 er5 => q F5 κ5 H5 σ5 ((x1.trans xx).trans x5) t5 er5⟩
    · rename_i s5 M5 e5
      simp only [Option.some.injEq] at e2
      subst e2
      exact ⟨env3, M3, _, F4, κ4, e5, t4, er4, fun F5 κ5 H5 v x5 t5 r5 => q F5 κ5 H5 v ((x1.trans xx).trans x5) t5 r5⟩
    · cases e2
  · rintro σ2 H2 ⟨F2, κ2, env2, M2, x2, t2, er2, e2⟩
    rw [List.drop_length] at e2
    simp only [forD, Option.some.injEq] at e2
    subst e2
    exact q F2 κ2 H2 σ2 (x1.trans x2) t2 er2
/-! ### while, so many turns at most -/
def whileD (c : TF) (body : SF) : Nat → Ev → Ms → Option Out
  | 0, _, _ => none
  | n + 1, env, M => match c env M with
    | some (false, M1) => some (.nx env M1)
    | some (true, M1) => match body env M1 with
      | some (.nx e2 M2) => whileD c body n e2 M2
      | some (.ct e2 M2) => whileD c body n e2 M2
      | some (.bk e2 M2) => some (.nx e2 M2)
      | some (.rt s M2) => some (.rt s M2)
      | none => none
    | none => none
theorem whileD_mono {c : TF} {body : SF} : ∀ {n m : Nat} {env : Ev} {M : Ms} {o : Out}, n ≤ m → whileD c body n env M = some o → whileD c body m env M = some o
  | 0, _, _, _, _, _, h => by cases h
  | n + 1, 0, _, _, _, hm, _ => by omega
  | n + 1, m + 1, env, M, o, hm, h => by
    unfold whileD at h ⊢
    split at h
    · exact h
    · split at h
      · exact whileD_mono (by omega) h
      · exact whileD_mono (by omega) h
      · exact h
      · exact h
      · cases h
    · cases h
/-- some number of turns is enough -/
def sWhile (n : Nat) (c : TF) (body : SF) : SF := whileD c body n
theorem ds_while {n : Nat} {cf : TF} {body : SF} (hc : DT W N sc c cf) (hb : DB W N sc sts body) : DS W N sc (.While c sts [] pos) (sWhile n cf body) := by
  intro X gd
  refine PS.imp (ps_while gd.never (hc X gd) (hb X gd)) fun D σ H h => ?_
  obtain ⟨env, M, o, F, κ, e, t, er, q⟩ := h
  unfold sWhile at e
  refine ⟨fun m σ2 H2 => ∃ F2 κ2 env2 M2, Ext F κ F2 κ2 ∧ Stt W.K W.cA F2 H2 κ2 M2 ∧ EnvR W.K W.cA F2 κ2 σ2 env2 ∧ whileD cf body m env2 M2 = some o, ⟨n, F, κ, env, M, .refl _ _, t, er, e⟩, ?_⟩
  rintro m σ2 H2 ⟨F2, κ2, env2, M2, x2, t2, er2, e2⟩
  cases m with
  | zero => cases e2
  | succ m =>
    unfold whileD at e2
    split at e2
    · rename_i M3 e3
      simp only [Option.some.injEq] at e2
      subst e2
      exact ⟨env2, M2, _, M3, F2, κ2, e3, t2, er2, fun F3 κ3 H3 x3 t3 => iteF (q F3 κ3 H3 σ2 (x2.trans x3) t3 (er2.ext x3))⟩
    · rename_i M3 e3
      refine ⟨env2, M2, _, M3, F2, κ2, e3, t2, er2, fun F3 κ3 H3 x3 t3 => iteT ?_⟩
      refine ⟨fun σ4 H4 => ∃ F4 κ4 env4 M4, Ext F κ F4 κ4 ∧ Stt W.K W.cA F4 H4 κ4 M4 ∧ EnvR W.K W.cA F4 κ4 σ4 env4 ∧ whileD cf body m env4 M4 = some o, fun σ4 H4 h4 => ⟨m, Nat.lt_succ_self m, h4⟩, ?_⟩
      have xx := x2.trans x3
      split at e2
      · rename_i env5 M5 e5
        exact ⟨env2, M3, _, F3, κ3, e5, t3, er2.ext x3, fun F5 κ5 H5 σ5 x5 t5 er5 => ⟨F5, κ5, env5, M5, xx.trans x5, t5, er5, e2⟩⟩
      · rename_i env5 M5 e5
        exact ⟨env2, M3, _, F3, κ3, e5, t3, er2.ext x3, fun F5 κ5 H5 σ5 x5 t5 er5 => ⟨F5, κ5, env5, M5, xx.trans x5, t5, er5, e2⟩⟩
      · rename_i env5 M5 e5
        simp only [Option.some.injEq] at e2
        subst e2
        exact ⟨env2, M3, _, F3, κ3, e5, t3, er2.ext x3, fun F5 κ5 H5 σ5 x5 t5 er5 => q F5 κ5 H5 σ5 (xx.trans x5) t5 er5⟩
      · rename_i s5 M5 e5
        simp only [Option.some.injEq] at e2
        subst e2
        exact ⟨env2, M3, _, F3, κ3, e5, t3, er2.ext x3, fun F5 κ5 H5 v x5 t5 r5 => q F5 κ5 H5 v (xx.trans x5) t5 r5⟩
      · cases e2
    · cases e2
/-! ### a comprehension's targets -/
def tGc (W : Wd) (f : GF) (vs : List Nat) : TG := fun v σ H Q => ∃ s env M env' M' F κ, f s env M = some (env', M') ∧ SRep W.K W.cA F κ v s ∧ Stt W.K W.cA F H κ M ∧ EnvR W.K W.cA F κ σ env ∧
  ∀ F' κ' H' σ', Ext F κ F' κ' → Stt W.K W.cA F' H' κ' M' → EnvR W.K W.cA F' κ' σ' env' → wipe σ' vs = wipe σ vs → Q σ' H'
def tGcs (W : Wd) (f : GFs) (vs : List Nat) : TGs := fun v σ H Q => ∃ ds env M env' M' F κ, f ds env M = some (env', M') ∧ Reps W.K W.cA F v ds ∧ Stt W.K W.cA F H κ M ∧ EnvR W.K W.cA F κ σ env ∧
  ∀ F' κ' H' σ', Ext F κ F' κ' → Stt W.K W.cA F' H' κ' M' → EnvR W.K W.cA F' κ' σ' env' → wipe σ' vs = wipe σ vs → Q σ' H'
def DGc (W : Wd) (N : List Str) (sc : Scp) (vs : List Nat) (e : Expr) (f : GF) : Prop := ∀ X, Gd W N sc X → PG X e (tGc W f vs)
def DGcs (W : Wd) (N : List Str) (sc : Scp) (vs : List Nat) (es : List Expr) (f : GFs) : Prop := ∀ X, Gd W N sc X → PGs X es (tGcs W f vs)
theorem wipe_get {σ : L2.St} {j : Nat} : ∀ {vs : List Nat}, (wipe σ vs)[j]? = if j ∈ vs then (if j < σ.length then some none else none) else σ[j]?
  | [] => by simp [wipe]
  | v :: vs => by
    unfold wipe
    by_cases hj : v = j
    · subst hj
      by_cases hl : v < σ.length
      · rw [List.getElem?_set_self (by rw [wipe_length]; exact hl)]
        simp [hl]
      · rw [List.getElem?_eq_none (by rw [List.length_set, wipe_length]; omega)]
        simp [hl]
    · rw [List.getElem?_set_ne hj, wipe_get (vs := vs)]
      have : (j ∈ v :: vs) ↔ j ∈ vs := by simp [Ne.symm hj]
      simp only [this]
theorem wipe_set {σ : L2.St} {i : Nat} {o : Option V} {vs : List Nat} (h : i ∈ vs) : wipe (σ.set i o) vs = wipe σ vs := by
  apply List.ext_getElem?
  intro j
  rw [wipe_get, wipe_get, List.length_set]
  by_cases hj : j ∈ vs
  · simp [hj]
  · have : i ≠ j := fun e => hj (e ▸ h)
    simp [hj, List.getElem?_set_ne this]
theorem dgc_var {i : Nat} {x : Str} {vs : List Nat} (hi : N[i]? = some x) (hx : L2.Loc sc.toScope x) (hf : sc.fs x = true ∨ sc.names.lookup x = some .local) (hv : i ∈ vs) : DGc W N sc vs (.Name x pos) (gVar i) := by
  intro X gd
  refine PG.imp (pg_name (i := i) (by rw [gd.eN]; exact gd.nd) (by rw [gd.eN]; exact hi) (by rw [gd.eS]; exact hx) (by rw [gd.eS]; exact hf.imp_left (gd.fn x))) fun v σ H Q h => ?_
  obtain ⟨s, env, M, env', M', F, κ, e, r, t, er, k⟩ := h
  unfold gVar at e
  split at e
  rotate_left
  · cases e
  simp only [Option.some.injEq, Prod.mk.injEq] at e
  obtain ⟨rfl, rfl⟩ := e
  exact k F κ H _ (.refl _ _) t (er.set r) (wipe_set hv)
theorem dgcs_nil {vs : List Nat} : DGcs W N sc vs [] gsNil := by
  intro X gd
  refine PGs.imp pgs_nil fun v σ H Q h => ?_
  obtain ⟨ds, env, M, env', M', F, κ, e, r, t, er, k⟩ := h
  unfold gsNil at e
  split at e
  rotate_left
  · cases e
  simp only [Option.some.injEq, Prod.mk.injEq] at e
  obtain ⟨rfl, rfl⟩ := e
  cases r
  exact ⟨rfl, k F κ H _ (.refl _ _) t er rfl⟩
theorem dgcs_cons {vs : List Nat} {f : GF} {g : GFs} (hs : notStar a = true) (h1 : DGc W N sc vs a f) (h2 : DGcs W N sc vs es g) : DGcs W N sc vs (a :: es) (gsCons f g) := by
  intro X gd
  refine PGs.imp (pgs_cons (h1 X gd) (h2 X gd) (assign_cons hs _ _)) fun v σ H Q h => ?_
  obtain ⟨ds, env, M, env', M', F, κ, e, r, t, er, k⟩ := h
  unfold gsCons at e
  split at e
  rotate_left
  · cases e
  rename_i d rest
  split at e
  rotate_left
  · cases e
  rename_i e1 M1 q1
  cases r with
  | cons r rr =>
    refine ⟨_, _, rfl, .d d, env, M, e1, M1, F, κ, q1, r, t, er, fun F1 κ1 H1 σ1 x1 t1 er1 w1 => ?_⟩
    exact ⟨rest, e1, M1, env', M', F1, κ1, e, rr.mono x1.sub, t1, er1, fun F2 κ2 H2 σ2 x2 t2 er2 w2 => k F2 κ2 H2 σ2 (x1.trans x2) t2 er2 (w2.trans w1)⟩
theorem dgc_tup {j : Nat} {g : GFs} {vs : List Nat} (hs : es.all notStar = true) (h : DGcs W N sc vs es g) : DGc W N sc vs (.Tuple es j pos) (gTupD es.length g) := by
  intro X gd
  refine PG.imp (pg_tup (n := es.length) gd.calm (h X gd) (assign_len _ _) (assign_plain hs _)) fun v σ H Q h => ?_
  obtain ⟨s, env, M, env', M', F, κ, e, r, t, er, k⟩ := h
  unfold gTupD at e
  split at e
  rotate_left
  · cases e
  rename_i ds e1
  split at e
  rotate_left
  · cases e
  rename_i hl
  obtain ⟨p, vs, rfl, hq, rs⟩ := (t.view r e1).tup_ t.sub
  exact ⟨p, vs, rfl, by rw [gd.K]; exact hq, by rw [rs.length]; exact hl, ds, env, M, env', M', F, κ, e, rs, t, er, k⟩
end
/-! ### comprehensions -/
def wipeE (env : Ev) : List Nat → Ev
  | [] => env
  | v :: vs => (wipeE env vs).set v none
theorem EnvR.wipe {K : PySem.W.Frag} {cA : Str → Option Addr} {F : Hp} {κ : List Addr} {σ : L2.St} {env : Ev} (h : EnvR K cA F κ σ env) : ∀ vs : List Nat, EnvR K cA F κ (L2.wipe σ vs) (wipeE env vs)
  | [] => h
  | v :: vs => (EnvR.wipe h vs).unset
/-- turn by turn; the list that is made stands in the k-th cell -/
def lcD (g : GF) (c : TF) (f : EF) (vs : List Nat) (k : Nat) : List D → Ev → Ms → Option Ms
  | [], _, M => some M
  | d :: ds, env, M => match g (.d d) (wipeE env vs) M with
    | some (e1, M1) => match c e1 M1 with
      | some (false, M2) => lcD g c f vs k ds env M2
      | some (true, M2) => match f e1 M2 with
        | some (s, M3) => match frz M3 s with
          | some (y, M4) => match M4[k]? with
            | some (.lst acc) => if acc.length < sizeLine then lcD g c f vs k ds env (M4.set k (.lst (acc ++ [y]))) else none
            | _ => none
          | none => none
        | none => none
      | none => none
    | none => none
def cLc (fi : IF) (g : GF) (c : TF) (f : EF) (vs : List Nat) : CF := fun env M => match fi env M with
  | some (ds, M1) => match lcD g c f vs M1.length ds env (M1 ++ [.lst []]) with
    | some M2 => match M2[M1.length]? with
      | some (.lst ys) => some (.lst ys, M2.take M1.length)
      | _ => none
    | none => none
  | none => none
def tTrue : TF := fun _ M => some (true, M)
theorem wipe_idem {σ : L2.St} {vs : List Nat} : L2.wipe (L2.wipe σ vs) vs = L2.wipe σ vs := by
  apply List.ext_getElem?
  intro j
  rw [wipe_get, wipe_get, wipe_length]
  by_cases hj : j ∈ vs <;> simp [hj]
/-- a clause's tests -/
def DTs (W : Wd) (N : List Str) (sc : Scp) (ifs : List Expr) (f : TF) : Prop := ∀ X, Gd W N sc X → PTs X ifs (tTv W f)
section
variable {W : Wd} {N : List Str} {sc : Scp} {a b c : Expr} {fa fb fc : EF} {es : List Expr} {st : Stmt} {sts : List Stmt} {pos : Pos}
theorem PTs.imp {X : Cx} {es : List Expr} {t t' : TT} (h : PTs X es t) (i : ∀ σ H Q, t' σ H Q → t σ H Q) : PTs X es t' := ⟨fun pins s σ H Q I hw => h.run pins s σ H Q I (i σ H Q hw)⟩
theorem dts_nil : DTs W N sc [] tTrue := by
  intro X gd
  refine PTs.imp pts_nil fun σ H Q h => ?_
  obtain ⟨env, M, k0, M', F, κ, e, t, er, k⟩ := h
  simp only [tTrue, Option.some.injEq, Prod.mk.injEq] at e
  obtain ⟨rfl, rfl⟩ := e
  exact k F κ H (.refl _ _) t
theorem dts_one {f : TF} (h : DT W N sc a f) : DTs W N sc [a] f := fun X gd => pts_one (h X gd)
/-- the scope within a comprehension -/
def blkS (scope : Scope) (sc : Scp) : Scp := { relS scope sc.toScope with fs := fun x => scope.names.lookup x == some .cell }
theorem Gd.blk {X : Cx} (gd : Gd W N sc X) {scope : Scope} (s : Shared) (H : Hp) (C : Addr) (cl : List (Str × Addr)) (fp : List Addr) : Gd W N (blkS scope sc) (X.blk s H scope (compEnvC scope cl C X.env) fp) := by
  refine ⟨gd.prog, gd.w, gd.K, gd.mg, gd.base, gd.eN, ?_, gd.calm, gd.hr, gd.nd, fun x hx => hx, rfl⟩
  show (compEnvC scope cl C X.env).scope = relS scope sc.toScope
  rw [← gd.eS]
  rfl
theorem tLc_of {X : Cx} (gd : Gd W N sc X) {fi : IF} {g : GF} {cf : TF} {f : EF} {vs : List Nat} : ∀ σ H Q, tFr W (cLc fi g cf f vs) σ H Q → tLc (tIv W fi) (tGc W g vs) (tTv W cf) (tEv W f) vs σ H Q := by
  intro σ H Q h
  obtain ⟨env, M, c0, M', F, κ, e, t, er, k⟩ := h
  unfold cLc at e
  split at e
  rotate_left
  · cases e
  rename_i ds M1 e1
  split at e
  rotate_left
  · cases e
  rename_i M2 e2
  split at e
  rotate_left
  · cases e
  rename_i ys e3
  simp only [Option.some.injEq, Prod.mk.injEq] at e
  obtain ⟨rfl, rfl⟩ := e
  refine ⟨env, M, ds, M1, F, κ, e1, t, er, fun F1 κ1 H1 J x1 t1 ok => fun D hD => ?_⟩
  obtain ⟨G, Y, wk, hG, hY⟩ := ok
  have er1 := er.ext x1
  have n0 : New F1 H1 F1 (upd H1 D (.lst [])) := New.oneH t1.sub hD
  have t1' : Stt W.K W.cA F1 (upd H1 D (.lst [])) (κ1 ++ [D]) (M1 ++ [.lst []]) := t1.push hD n0 (c := .lst []) ⟨t1.sub.none hD, [], upd_same, .nil⟩ (fun d z => by cases z)
  have hkD : (κ1 ++ [D])[M1.length]? = some D := by rw [← t1.len]; simp
  refine lc_it wk (fun i H2 => ∃ F2 κ2 M3, Ext F1 (κ1 ++ [D]) F2 κ2 ∧ Stt W.K W.cA F2 H2 κ2 M3 ∧ lcD g cf f vs M1.length (ds.drop i) env M3 = some M2) ⟨F1, κ1 ++ [D], _, .refl _ _, t1', e2⟩ ?_ ?_ ?_
  · rintro i H2 _ ⟨F2, κ2, M3, x2, t2, q2⟩
    exact hG F2 H2 x2.sub t2.sub
  · rintro i x H2 H3 hlt ⟨F2, κ2, M3, x2, t2, q2⟩ hy
    have hd : ds.drop i = ds[i] :: ds.drop (i + 1) := List.drop_eq_getElem_cons hlt
    rw [hd] at q2
    obtain ⟨F3, n3, r3⟩ := hY i H2 x H3 F2 ds[i] (List.getElem?_eq_getElem hlt) x2.sub t2.sub hy
    have x3 : Ext F2 κ2 F3 κ2 := .sub' n3.fr
    unfold lcD at q2
    split at q2
    rotate_left
    · cases q2
    rename_i env3 M4 e4
    have xF : Ext F1 κ1 F3 κ2 := (Ext.trans ⟨.refl _, [D], rfl⟩ x2).trans x3
    refine ⟨.d ds[i], wipeE env vs, M3, env3, M4, F3, κ2, e4, r3, t2.new n3, (er1.ext xF).wipe vs, fun F4 κ4 H4 σ4 x4 t4 er4 w4 => ⟨by rw [w4, wipe_idem], ?_⟩⟩
    split at q2
    · rename_i M5 e5
      exact ⟨env3, M4, _, M5, F4, κ4, e5, t4, er4, fun F5 κ5 H5 x5 t5 => iteF ⟨F5, κ5, M5, ((x2.trans x3).trans x4).trans x5, t5, q2⟩⟩
    · rename_i M5 e5
      refine ⟨env3, M4, _, M5, F4, κ4, e5, t4, er4, fun F5 κ5 H5 x5 t5 => iteT ?_⟩
      split at q2
      rotate_left
      · cases q2
      rename_i s6 M6 e6
      split at q2
      rotate_left
      · cases q2
      rename_i y M7 e7
      split at q2
      rotate_left
      · cases q2
      rename_i acc e8
      split at q2
      rotate_left
      · cases q2
      rename_i hz
      refine ⟨env3, M5, s6, M6, F5, κ5, e6, t5, er4.ext x5, fun F6 κ6 H6 v x6 t6 r6 => ?_⟩
      obtain ⟨F7, x7, t7, r7⟩ := t6.frz r6 e7
      have xx := (((x2.trans x3).trans x4).trans x5).trans (x6.trans x7)
      have hk : κ6[M1.length]? = some D := by
        obtain ⟨_, m, hm⟩ := xx
        rw [hm, List.getElem?_append_left (by rw [← t1.len]; simp)]
        exact hkD
      obtain ⟨f7, vs7, q7, r8⟩ := t7.cell _ D _ hk e8
      refine ⟨vs7, q7, by rw [r8.length]; exact hz, F7, κ6, _, xx, t7.setc hk e8 f7 (c' := .lst (acc ++ [y])) ⟨f7, _, upd_same, r8.snoc r7⟩, q2⟩
    · cases q2
  · rintro H2 ⟨F2, κ2, M3, x2, t2, q2⟩
    rw [List.drop_length] at q2
    simp only [lcD, Option.some.injEq] at q2
    subst q2
    obtain ⟨hs, m, hm⟩ := x2
    have hk : κ2[M1.length]? = some D := by rw [hm, List.getElem?_append_left (by rw [← t1.len]; simp)]; exact hkD
    have q := t2.cell _ D _ hk e3
    have hl : M1.length = κ1.length := t1.len.symm
    have eκ : κ2.take M1.length = κ1 := by rw [hm, hl]; simp
    have t3 := t2.take M1.length
    rw [eκ] at t3
    have hn : D ∉ κ1 := fun hm' => by
      have h1 := t2.nd
      rw [hm] at h1
      have h2 : (κ1 ++ [D]).Nodup := h1.sublist (List.sublist_append_left _ _)
      rw [List.nodup_append] at h2
      exact h2.2.2 D hm' D (by simp) rfl
    exact k F2 κ1 H2 D (x1.trans ⟨hs, [], by simp⟩) t3 hn rfl q
theorem de_lc {elt tg iter : Expr} {ifs : List Expr} {scope : Scope} {own : List (Str × Nat)} {fi : IF} {g : GF} {cf : TF} {f : EF} (ok : BlkOk N sc.toScope scope own) (hs : notSet iter = true) (hi : DI W N sc tg iter fi) (hg : DGc W N (blkS scope sc) (own.map (·.2)) tg g) (hc : DTs W N (blkS scope sc) ifs cf)
    (he : DE W N (blkS scope sc) elt f) : DF W N sc (.ListComp elt [⟨tg, iter, ifs, 0⟩] scope pos) (cLc fi g cf f (own.map (·.2))) := by
  intro X gd
  refine PE.imp (pe_lc gd.calm (by rw [gd.eN]; exact gd.nd) (hi X gd) (by rw [gd.eN, gd.eS]; exact ok) (fun s H C cl fp => hg _ (gd.blk s H C cl fp)) (fun s H C cl fp => hc _ (gd.blk s H C cl fp)) (fun s H C cl fp => he _ (gd.blk s H C cl fp)) (folded_no hs _)) (tLc_of gd)
/-- x = [..] on one line, x a local -/
theorem ds_lc {x : Str} {px : Pos} {i : Nat} {elt tg iter : Expr} {ifs : List Expr} {scope : Scope} {own : List (Str × Nat)} {fi : IF} {g : GF} {cf : TF} {f : EF} {cpos : Pos} (hi0 : N[i]? = some x) (hx : sc.names.lookup x = some .local)
    (hsw : pureOf (swapsWith (.ListComp elt [⟨tg, iter, ifs, 0⟩] scope cpos) (some (.Name x px)) pos.line (envD sc.toScope)) = some true)
    (ok : BlkOk N sc.toScope scope own) (hs : notSet iter = true) (hi : DI W N sc tg iter fi) (hg : DGc W N (blkS scope sc) (own.map (·.2)) tg g) (hc : DTs W N (blkS scope sc) ifs cf) (he : DE W N (blkS scope sc) elt f) :
    DS W N sc (.Assign [.Name x px] (.ListComp elt [⟨tg, iter, ifs, 0⟩] scope cpos) pos) (sAsg (eTree (cLc fi g cf f (own.map (·.2)))) (gVar i)) ∧
    DS W N sc (.Assign [.Name x px] (.ListComp elt [⟨tg, iter, ifs, 0⟩] scope cpos) pos) (sAsg (eLive (cLc fi g cf f (own.map (·.2)))) (gVar i)) := by
  have key : ∀ X, Gd W N sc X → PS X (.Assign [.Name x px] (.ListComp elt [⟨tg, iter, ifs, 0⟩] scope cpos) pos) (tAsg (tFr W (cLc fi g cf f (own.map (·.2)))) (gName i)) := fun X gd =>
    PS.imp (ps_setLc (i := i) gd.calm (by rw [gd.eN]; exact gd.nd) (by rw [gd.eN]; exact hi0) (by rw [gd.eS]; exact hx) (swaps_of hsw _ gd.eS) (hi X gd) (by rw [gd.eN, gd.eS]; exact ok) (fun s H C cl fp => hg _ (gd.blk s H C cl fp)) (fun s H C cl fp => hc _ (gd.blk s H C cl fp))
      (fun s H C cl fp => he _ (gd.blk s H C cl fp)) (folded_no hs _)) fun D σ H h => tLc_of gd σ H _ h
  constructor
  · intro X gd
    refine PS.imp (key X gd) fun D σ H h => ?_
    obtain ⟨env, M, o, F, κ, e, t, er, k⟩ := h
    unfold sAsg at e
    split at e
    rotate_left
    · cases e
    rename_i s M1 e1
    split at e
    rotate_left
    · cases e
    rename_i e' M2 e2
    simp only [Option.some.injEq] at e
    subst e
    unfold eTree at e1
    split at e1
    rotate_left
    · cases e1
    rename_i c0 M3 e3
    simp only [Option.some.injEq, Prod.mk.injEq] at e1
    obtain ⟨rfl, rfl⟩ := e1
    unfold gVar at e2
    split at e2
    rotate_left
    · cases e2
    simp only [Option.some.injEq, Prod.mk.injEq] at e2
    obtain ⟨rfl, rfl⟩ := e2
    refine ⟨env, M, c0, M3, F, κ, e3, t, er, fun F1 κ1 H1 p x1 t1 hp hn r => ?_⟩
    obtain ⟨fp, o, ho, rep⟩ := r.tree hn
    have xx := x1.trans (.sub' (SubH.upd (o := o) fp))
    exact k _ κ1 H1 _ xx (t1.addF hp fp ho) ((er.ext xx).set rep)
  · intro X gd
    refine PS.imp (key X gd) fun D σ H h => ?_
    obtain ⟨env, M, o, F, κ, e, t, er, k⟩ := h
    unfold sAsg at e
    split at e
    rotate_left
    · cases e
    rename_i s M1 e1
    split at e
    rotate_left
    · cases e
    rename_i e' M2 e2
    simp only [Option.some.injEq] at e
    subst e
    unfold eLive at e1
    split at e1
    rotate_left
    · cases e1
    rename_i c0 M3 e3
    simp only [Option.some.injEq, Prod.mk.injEq] at e1
    obtain ⟨rfl, rfl⟩ := e1
    unfold gVar at e2
    split at e2
    rotate_left
    · cases e2
    simp only [Option.some.injEq, Prod.mk.injEq] at e2
    obtain ⟨rfl, rfl⟩ := e2
    refine ⟨env, M, c0, M3, F, κ, e3, t, er, fun F1 κ1 H1 p x1 t1 hp hn r => ?_⟩
    have xx : Ext F κ F1 (κ1 ++ [p]) := x1.trans ⟨.refl _, [p], rfl⟩
    exact k _ (κ1 ++ [p]) H1 _ xx (t1.addC hp (notFrz_ne hn) r) ((er.ext xx).set ⟨p, by rw [← t1.len]; simp, rfl⟩)
end
end G
/-! What is walked: lists, tuples, texts, ranges, enumerate, zip, dicts. -/
namespace G
open PySem L2
def walkOf : D → Option (List D)
  | .lst ds => some ds
  | .tup ds => some ds
  | .scr ns => some (ns.map D.int)
  | .str z => some (z.cps.toList.map fun c => .str ⟨#[c]⟩)
  | _ => none
def iSeq (fa : EF) : IF := fun env M => match fa env M with
  | some (s, M1) => match frz M1 s with
    | some (d, M2) => match walkOf d with
      | some ds => some (ds, M2)
      | none => none
    | none => none
  | none => none
def iOr (w1 w2 : TI) : TI := fun σ H R => w1 σ H R ∨ w2 σ H R
theorem pi_or {X : Cx} {tg e : Expr} {t t' : TI} (h : PI X tg e t) (h' : PI X tg e t') : PI X tg e (iOr t t') := ⟨fun pins s σ H R I hw => hw.elim (h.run pins s σ H R I) (h'.run pins s σ H R I)⟩
section
variable {W : Wd} {N : List Str} {sc : Scp} {a b c : Expr} {fa fb fc : EF} {es : List Expr} {st : Stmt} {sts : List Stmt} {pos : Pos} {tg : Expr}
theorem itok_list {F : Hp} {p : Addr} {vs : List V} {ds : List D} (hq : SqL W.K F p vs) (r : Reps W.K W.cA F vs ds) : ItOk W F (Itl W.K p) ds := by
  refine ⟨_, _, by rw [← r.length]; exact walk_list (K := W.K) (a := p) (xs := vs), fun F1 H hs h1 => h1.sqL (hs.sqL hq), fun i H x H' F1 d hd hs h1 hy => ?_⟩
  obtain ⟨rfl, hx⟩ := hy
  obtain ⟨v, hv, rv⟩ := r.get hd
  rw [hx] at hv
  cases hv
  exact ⟨F1, New.refl h1, rv.mono hs⟩
theorem itok_tup {F : Hp} {p : Addr} {vs : List V} {ds : List D} (hq : SqT W.K F p vs) (r : Reps W.K W.cA F vs ds) : ItOk W F (Itt W.K p) ds := by
  refine ⟨_, _, by rw [← r.length]; exact walk_tup (K := W.K) (a := p) (xs := vs), fun F1 H hs h1 => h1.sqT (hs.sqT hq), fun i H x H' F1 d hd hs h1 hy => ?_⟩
  obtain ⟨rfl, hx⟩ := hy
  obtain ⟨v, hv, rv⟩ := r.get hd
  rw [hx] at hv
  cases hv
  exact ⟨F1, New.refl h1, rv.mono hs⟩
theorem itok_str {F : Hp} {z : Str} : ItOk W F (Its z) (z.cps.toList.map fun c => .str ⟨#[c]⟩) := by
  refine ⟨_, _, by rw [List.length_map, Array.length_toList]; exact walk_str (z := z), fun F1 H hs h1 => trivial, fun i H x H' F1 d hd hs h1 hy => ?_⟩
  obtain ⟨rfl, c, hc, rfl⟩ := hy
  rw [List.getElem?_map, Array.getElem?_toList, hc] at hd
  cases hd
  exact ⟨F1, New.refl h1, .str _⟩
theorem di_seq (ha : DE W N sc a fa) : DI W N sc tg a (iSeq fa) := by
  intro X gd
  refine PI.imp (pi_or (pi_list (ha X gd)) (pi_or (pi_tup (ha X gd)) (pi_str (ha X gd)))) fun σ H R h => ?_
  obtain ⟨env, M, ds, M', F, κ, e, t, er, k⟩ := h
  unfold iSeq at e
  split at e
  rotate_left
  · cases e
  rename_i s M1 e1
  split at e
  rotate_left
  · cases e
  rename_i d M2 e2
  split at e
  rotate_left
  · cases e
  rename_i ds' e3
  simp only [Option.some.injEq, Prod.mk.injEq] at e
  obtain ⟨rfl, rfl⟩ := e
  cases d with
  | lst xs =>
    cases e3
    refine .inl ⟨env, M, s, M1, F, κ, e1, t, er, fun F1 κ1 H1 v x1 t1 r => ?_⟩
    obtain ⟨F2, x2, t2, r2⟩ := t1.frz r e2
    rw [gd.K]
    cases r2 with
    | lst q rs => exact ⟨_, rfl, ⟨_, t2.sub.sqL (.of q)⟩, k F2 κ1 H1 _ (x1.trans x2) t2 (itok_list (.of q) rs)⟩
  | tup xs =>
    cases e3
    refine .inr (.inl ⟨env, M, s, M1, F, κ, e1, t, er, fun F1 κ1 H1 v x1 t1 r => ?_⟩)
    obtain ⟨F2, x2, t2, r2⟩ := t1.frz r e2
    rw [gd.K]
    cases r2 with
    | tup q rs => exact ⟨_, rfl, ⟨_, t2.sub.sqT q⟩, k F2 κ1 H1 _ (x1.trans x2) t2 (itok_tup q rs)⟩
  | scr xs =>
    cases e3
    refine .inl ⟨env, M, s, M1, F, κ, e1, t, er, fun F1 κ1 H1 v x1 t1 r => ?_⟩
    obtain ⟨F2, x2, t2, r2⟩ := t1.frz r e2
    rw [gd.K]
    cases r2 with
    | scr q => exact ⟨_, rfl, ⟨_, t2.sub.sqL q⟩, k F2 κ1 H1 _ (x1.trans x2) t2 (itok_list q .ints)⟩
  | str z =>
    cases e3
    refine .inr (.inr ⟨env, M, s, M1, F, κ, e1, t, er, fun F1 κ1 H1 v x1 t1 r => ?_⟩)
    obtain ⟨F2, x2, t2, r2⟩ := t1.frz r e2
    cases r2 with
    | str => exact ⟨_, rfl, k F2 κ1 H1 _ (x1.trans x2) t2 itok_str⟩
  | _ => cases e3
/-! ### range -/
def rangeD (lo : Int) (n : Nat) : List D := (List.range n).map fun (i : Nat) => .int (lo + (i : Nat))
def iRange1 (fa : EF) : IF := fun env M => match fa env M with
  | some (s, M1) => match view M1 s with
    | some (.int n) => if -(2 ^ 62) ≤ n ∧ n < 2 ^ 62 then some (rangeD 0 n.toNat, M1) else none
    | _ => none
  | none => none
def iRange2 (fa fb : EF) : IF := fun env M => match fa env M with
  | some (s, M1) => match fb env M1 with
    | some (s', M2) => match view M2 s with
      | some (.int i) => match view M2 s' with
        | some (.int j) => if -(2 ^ 62) ≤ i ∧ i < 2 ^ 62 ∧ -(2 ^ 62) ≤ j ∧ j < 2 ^ 62 then some (rangeD i (j - i).toNat, M2) else none
        | _ => none
      | _ => none
    | none => none
  | none => none
theorem itok_range {F : Hp} {lo : Int} {n : Nat} : ItOk W F (Itr lo n) (rangeD lo n) := by
  refine ⟨_, _, by rw [rangeD, List.length_map, List.length_range]; exact walk_range (lo := lo) (n := n), fun F1 H hs h1 => trivial, fun i H x H' F1 d hd hs h1 hy => ?_⟩
  obtain ⟨rfl, rfl⟩ := hy
  have hi : i < n := by
    obtain ⟨hl, _⟩ := List.getElem?_eq_some_iff.mp hd
    simpa [rangeD] using hl
  have : d = .int (lo + i) := by
    simp only [rangeD, List.getElem?_map, List.getElem?_range hi, Option.map_some, Option.some.injEq] at hd
    exact hd.symm
  subst this
  exact ⟨F1, New.refl h1, .int _⟩
theorem star1 {a : Expr} (h : notStar a = true) (env : Env) : starEach [a] env = [(false, eval a env)] := star_cons h [] env
theorem di_range1 {p : Pos} (hf : Free W sc "range") (hst : notStar a = true) (ha : DE W N sc a fa) : DI W N sc tg (.Call (.Name "range" p) [a] [] pos) (iRange1 fa) := by
  intro X gd
  refine PI.imp (pi_range1 (gd.gl hf.1) (by rw [gd.mg]; exact hf.2) (pa_cons (ha X gd) pa_nil (star_cons hst _ _)) (star1 hst _)) fun σ H R h => ?_
  obtain ⟨env, M, ds, M', F, κ, e, t, er, k⟩ := h
  unfold iRange1 at e
  split at e
  rotate_left
  · cases e
  rename_i s M1 e1
  split at e
  rotate_left
  · cases e
  rename_i n e2
  split at e
  rotate_left
  · cases e
  rename_i hb
  simp only [Option.some.injEq, Prod.mk.injEq] at e
  obtain ⟨rfl, rfl⟩ := e
  refine ⟨env, M, s, M1, F, κ, e1, t, er, fun F1 κ1 H1 v x1 t1 r => ?_⟩
  obtain rfl := (t1.view r e2).int_
  exact ⟨n, rfl, hb.1, hb.2, k F1 κ1 H1 _ x1 t1 itok_range⟩
theorem di_range2 {p : Pos} (hf : Free W sc "range") (hst : notStar a = true) (hst2 : notStar b = true) (ha : DE W N sc a fa) (hb : DE W N sc b fb) : DI W N sc tg (.Call (.Name "range" p) [a, b] [] pos) (iRange2 fa fb) := by
  intro X gd
  refine PI.imp (pi_range2 (gd.gl hf.1) (by rw [gd.mg]; exact hf.2) (pa_cons (ha X gd) (pa_cons (hb X gd) pa_nil (star_cons hst2 _ _)) (star_cons hst _ _)) (by rw [star_cons hst, star1 hst2]) (star1 hst2 _)) fun σ H R h => ?_
  obtain ⟨env, M, ds, M', F, κ, e, t, er, k⟩ := h
  unfold iRange2 at e
  split at e
  rotate_left
  · cases e
  rename_i s M1 e1
  split at e
  rotate_left
  · cases e
  rename_i s' M2 e2
  split at e
  rotate_left
  · cases e
  rename_i i e3
  split at e
  rotate_left
  · cases e
  rename_i j e4
  split at e
  rotate_left
  · cases e
  rename_i hbd
  simp only [Option.some.injEq, Prod.mk.injEq] at e
  obtain ⟨rfl, rfl⟩ := e
  refine ⟨env, M, s, M1, F, κ, e1, t, er, fun F1 κ1 H1 v x1 t1 r => ?_⟩
  refine ⟨env, M1, s', M2, F1, κ1, e2, t1, er.ext x1, fun F2 κ2 H2 v2 x2 t2 r2 => ?_⟩
  obtain rfl := (t2.view (r.ext x2) e3).int_
  obtain rfl := (t2.view r2 e4).int_
  exact ⟨i, j, rfl, hbd, k F2 κ2 H2 _ (x1.trans x2) t2 itok_range⟩
/-! ### enumerate, zip -/
def enumD (ds : List D) : List D := (List.range ds.length).zipWith (fun (i : Nat) d => D.tup [.int (i : Nat), d]) ds
def zipD (ds es : List D) : List D := ds.zipWith (fun x y => .tup [x, y]) es
theorem new_pair {F F1 H : Hp} {T : Addr} {x y : V} {d e : D} (h1 : SubH F1 H) (hT : H T = none) (rx : Rep W.K W.cA F1 x d) (ry : Rep W.K W.cA F1 y e) : ∃ F2, New F1 H F2 (upd H T (.tup [x, y])) ∧ Rep W.K W.cA F2 (.ref T) (.tup [d, e]) := by
  have n := New.one (o := .tup [x, y]) h1 hT
  exact ⟨_, n, .tup (.inl (.inl upd_same)) (.cons (rx.mono n.fr) (.cons (ry.mono n.fr) .nil))⟩
theorem itok_enum {F : Hp} {p : Addr} {vs : List V} {ds : List D} (hq : SqL W.K F p vs) (r : Reps W.K W.cA F vs ds) : ItOk W F (Ite W.K p) (enumD ds) := by
  refine ⟨_, _, by simp only [enumD, List.length_zipWith, List.length_range, Nat.min_self]; rw [← r.length]; exact walk_enum (K := W.K) (a := p) (xs := vs), fun F1 H hs h1 => h1.sqL (hs.sqL hq), fun i H x H' F1 d hd hs h1 hy => ?_⟩
  obtain ⟨T, x1, y1, rfl, hT, rfl, hx, hy⟩ := hy
  cases hx
  obtain ⟨d1, hd1, rd⟩ := r.getV hy
  have hi : i < ds.length := (List.getElem?_eq_some_iff.mp hd1).1
  have : d = .tup [.int (i : Nat), d1] := by
    simp only [enumD, List.getElem?_zipWith, List.getElem?_range hi, hd1, Option.some.injEq] at hd
    exact hd.symm
  subst this
  exact new_pair (F := F) h1 hT (.int _) (rd.mono hs)
theorem itok_zip {F : Hp} {p q : Addr} {vs ws : List V} {ds es : List D} (hp : SqL W.K F p vs) (hq : SqL W.K F q ws) (r : Reps W.K W.cA F vs ds) (r2 : Reps W.K W.cA F ws es) : ItOk W F (Itz W.K p q) (zipD ds es) := by
  refine ⟨_, _, walk_zip (K := W.K) (a := p) (b := q) (xs := vs) (ys := ws) (by simp only [zipD, List.length_zipWith]; rw [r.length, r2.length]), fun F1 H hs h1 => ⟨h1.sqL (hs.sqL hp), h1.sqL (hs.sqL hq)⟩, fun i H x H' F1 d hd hs h1 hy => ?_⟩
  obtain ⟨T, x1, y1, rfl, hT, rfl, hx, hy⟩ := hy
  obtain ⟨d1, hd1, rd⟩ := r.getV hx
  obtain ⟨d2, hd2, rd2⟩ := r2.getV hy
  have : d = .tup [d1, d2] := by
    simp only [zipD, List.getElem?_zipWith, hd1, hd2, Option.some.injEq] at hd
    exact hd.symm
  subst this
  exact new_pair (F := F) h1 hT (rd.mono hs) (rd2.mono hs)
def iEnum (fa : EF) : IF := fun env M => match fa env M with
  | some (s, M1) => match frz M1 s with
    | some (.lst ds, M2) => some (enumD ds, M2)
    | _ => none
  | none => none
theorem di_enum {p tpos : Pos} {elts : List Expr} {kk : Nat} (hf : Free W sc "enumerate") (hst : notStar a = true) (ha : DE W N sc a fa) : DI W N sc (.Tuple elts kk tpos) (.Call (.Name "enumerate" p) [a] [] pos) (iEnum fa) := by
  intro X gd
  refine PI.imp (pi_enum (gd.gl hf.1) (by rw [gd.mg]; exact hf.2) (pa_cons (ha X gd) pa_nil (star_cons hst _ _)) (star1 hst _)) fun σ H R h => ?_
  obtain ⟨env, M, ds, M', F, κ, e, t, er, k⟩ := h
  unfold iEnum at e
  split at e
  rotate_left
  · cases e
  rename_i s M1 e1
  split at e
  rotate_left
  · cases e
  rename_i ds' M2 e2
  simp only [Option.some.injEq, Prod.mk.injEq] at e
  obtain ⟨rfl, rfl⟩ := e
  refine ⟨env, M, s, M1, F, κ, e1, t, er, fun F1 κ1 H1 v x1 t1 r => ?_⟩
  obtain ⟨F2, x2, t2, r2⟩ := t1.frz r e2
  rw [gd.K]
  cases r2 with
  | lst q rs => exact ⟨_, _, rfl, t2.sub.sqL (.of q), k F2 κ1 H1 _ (x1.trans x2) t2 (itok_enum (.of q) rs)⟩
def iZip (fa fb : EF) : IF := fun env M => match fa env M with
  | some (s, M1) => match fb env M1 with
    | some (s', M2) => match frz M2 s with
      | some (.lst ds, M3) => match frz M3 s' with
        | some (.lst es, M4) => some (zipD ds es, M4)
        | _ => none
      | _ => none
    | none => none
  | none => none
theorem di_zip {p tpos : Pos} {elts : List Expr} {kk : Nat} (hf : Free W sc "zip") (hst : notStar a = true) (hst2 : notStar b = true) (ha : DE W N sc a fa) (hb : DE W N sc b fb) : DI W N sc (.Tuple elts kk tpos) (.Call (.Name "zip" p) [a, b] [] pos) (iZip fa fb) := by
  intro X gd
  refine PI.imp (RZ.pi_zipA (gd.gl hf.1) (by rw [gd.mg]; exact hf.2) (pa_cons (ha X gd) (pa_cons (hb X gd) pa_nil (star_cons hst2 _ _)) (star_cons hst _ _)) (star_cons hst _ _) (plain_args (by simp [hst2]) _ _)) fun σ H R h => ?_
  obtain ⟨env, M, ds, M', F, κ, e, t, er, k⟩ := h
  unfold iZip at e
  split at e
  rotate_left
  · cases e
  rename_i s M1 e1
  split at e
  rotate_left
  · cases e
  rename_i s' M2 e2
  split at e
  rotate_left
  · cases e
  rename_i ds' M3 e3
  split at e
  rotate_left
  · cases e
  rename_i es' M4 e4
  simp only [Option.some.injEq, Prod.mk.injEq] at e
  obtain ⟨rfl, rfl⟩ := e
  refine ⟨env, M, s, M1, F, κ, e1, t, er, fun F1 κ1 H1 v x1 t1 r => ?_⟩
  refine ⟨env, M1, s', M2, F1, κ1, e2, t1, er.ext x1, fun F2 κ2 H2 v2 x2 t2 r2 => ?_⟩
  obtain ⟨F3, x3, t3, r3⟩ := t2.frz (r.ext x2) e3
  obtain ⟨F4, x4, t4, r4⟩ := t3.frz (r2.ext x3) e4
  have r3' := r3.mono x4.sub
  rw [gd.K]
  cases r3' with
  | lst q rs => cases r4 with
    | lst q2 rs2 => exact ⟨_, _, _, _, rfl, .inl ⟨t4.sub.sqL (.of q), t4.sub.sqL (.of q2), k F4 κ2 H2 _ (((x1.trans x2).trans x3).trans x4) t4 (itok_zip (.of q) (.of q2) rs rs2)⟩⟩
end
end G
/-! Operators on data; truths. -/
namespace G
open PySem L2
/-! ### data as plain data -/
mutual
def D.py : D → Option PyData
  | .non => some .none
  | .bl b => some (.bool b)
  | .int i => some (.int i)
  | .str x => if PyData.strOk x then some (.str x) else none
  | .tup ds => match pys ds with
    | some xs => some (.tuple xs)
    | none => none
  | .lst ds => match pys ds with
    | some xs => some (.list xs)
    | none => none
  | .scr ns => some (.list (ns.map PyData.int))
  | .dct _ => none
  | .obj _ _ => none
def pys : List D → Option (List PyData)
  | [] => some []
  | d :: r => match D.py d with
    | some x => match pys r with
      | some xs => some (x :: xs)
      | none => none
    | none => none
end
theorem py_tup {ds : List D} {d : PyData} (h : D.py (.tup ds) = some d) : ∃ xs, pys ds = some xs ∧ d = .tuple xs := by
  unfold D.py at h
  split at h
  · rename_i xs e; cases h; exact ⟨xs, e, rfl⟩
  · cases h
theorem py_lst {ds : List D} {d : PyData} (h : D.py (.lst ds) = some d) : ∃ xs, pys ds = some xs ∧ d = .list xs := by
  unfold D.py at h
  split at h
  · rename_i xs e; cases h; exact ⟨xs, e, rfl⟩
  · cases h
theorem pys_cons {d : D} {r : List D} {ys : List PyData} (h : pys (d :: r) = some ys) : ∃ x xs, D.py d = some x ∧ pys r = some xs ∧ ys = x :: xs := by
  unfold pys at h
  split at h
  rotate_left
  · cases h
  rename_i x e1
  split at h
  rotate_left
  · cases h
  rename_i xs e2
  cases h
  exact ⟨x, xs, e1, e2, rfl⟩
mutual
theorem py_can : ∀ {d : D} {p : PyData}, D.py d = some p → p.canLay0 = true
  | .non, p, h => by unfold D.py at h; cases h; rfl
  | .bl b, p, h => by unfold D.py at h; cases h; rfl
  | .int b, p, h => by unfold D.py at h; cases h; rfl
  | .str b, p, h => by
    unfold D.py at h
    split at h
    · rename_i e; cases h; simpa [PyData.canLay0] using e
    · cases h
  | .tup ds, p, h => by
    obtain ⟨xs, e, rfl⟩ := py_tup h
    simp only [PyData.canLay0]
    exact pys_can e
  | .lst ds, p, h => by
    obtain ⟨xs, e, rfl⟩ := py_lst h
    simp only [PyData.canLay0]
    exact pys_can e
  | .scr ns, p, h => by
    unfold D.py at h
    cases h
    simp only [PyData.canLay0]
    induction ns with
    | nil => rfl
    | cons n ns ih => simp only [List.map_cons, PyData.canLayAll0, PyData.canLay0, ih, Bool.and_self]
  | .dct _, p, h => by unfold D.py at h; cases h
  | .obj _ _, p, h => by unfold D.py at h; cases h
theorem pys_can : ∀ {ds : List D} {ps : List PyData}, pys ds = some ps → PyData.canLayAll0 ps = true
  | [], ps, h => by unfold pys at h; cases h; rfl
  | d :: ds, ps, h => by
    obtain ⟨x, xs, e1, e2, rfl⟩ := pys_cons h
    simp only [PyData.canLayAll0, py_can e1, pys_can e2, Bool.and_self]
end
theorem dpAll_ints {K : PySem.W.Frag} {H : Hp} : ∀ ns : List Int, DpAll K H (ns.map V.int) (ns.map PyData.int)
  | [] => .nil
  | n :: ns => .cons (.int n) (dpAll_ints ns)
section
variable {K : PySem.W.Frag} {cA : Str → Option Addr} {F H : Hp}
mutual
theorem Rep.dp (hs : SubH F H) : ∀ {d : D} {v : V} {p : PyData}, Rep K cA F v d → D.py d = some p → Dp K H v p
  | .non, v, p, r, h => by unfold D.py at h; cases h; cases r; exact .non
  | .bl b, v, p, r, h => by unfold D.py at h; cases h; cases r; exact .bl b
  | .int b, v, p, r, h => by unfold D.py at h; cases h; cases r; exact .int b
  | .str b, v, p, r, h => by
    unfold D.py at h
    split at h
    · cases h; cases r; exact .str b
    · cases h
  | .tup ds, v, p, r, h => by
    obtain ⟨xs, e, rfl⟩ := py_tup h
    cases r with | tup q rs => exact .tup (hs.sqT q) (Reps.dp hs rs e)
  | .lst ds, v, p, r, h => by
    obtain ⟨xs, e, rfl⟩ := py_lst h
    cases r with | lst q rs => exact .lst (.of (hs.lst q)) (Reps.dp hs rs e)
  | .scr ns, v, p, r, h => by
    unfold D.py at h
    cases h
    cases r with | scr q => exact .lst (hs.sqL q) (dpAll_ints ns)
  | .dct _, v, p, r, h => by unfold D.py at h; cases h
  | .obj _ _, v, p, r, h => by unfold D.py at h; cases h
theorem Reps.dp (hs : SubH F H) : ∀ {ds : List D} {vs : List V} {ps : List PyData}, Reps K cA F vs ds → pys ds = some ps → DpAll K H vs ps
  | [], vs, ps, r, h => by unfold pys at h; cases h; cases r; exact .nil
  | d :: ds, vs, ps, r, h => by
    obtain ⟨x, xs, e1, e2, rfl⟩ := pys_cons h
    cases r with | cons r rr => exact .cons (Rep.dp hs r e1) (Reps.dp hs rr e2)
end
theorem VRep.dp (hs : SubH F H) {v : V} {d : D} {p : PyData} (h : VRep K cA F H v d) (e : D.py d = some p) : Dp K H v p := by
  cases h with
  | rep r => exact r.dp hs e
  | lst q rs =>
    obtain ⟨xs, e2, rfl⟩ := py_lst e
    exact .lst (.of q) (rs.dp hs e2)
  | dct q e2 rs => unfold D.py at e; cases e
  | obj c q e2 rs n => unfold D.py at e; cases e
end
/-- numbers, texts, truths, None: what == asks -/
def eqS : D → D → Option Bool
  | .non, .non => some true
  | .bl a, .bl b => some (a == b)
  | .int a, .int b => some (decide (a = b))
  | .str a, .str b => some (decide (a = b))
  | .non, .int _ => some false
  | .int _, .non => some false
  | .non, .str _ => some false
  | .str _, .non => some false
  | .non, .bl _ => some false
  | .bl _, .non => some false
  | .int _, .str _ => some false
  | .str _, .int _ => some false
  | .bl _, .str _ => some false
  | .str _, .bl _ => some false
  | _, _ => none
def eqP (x y : D) : Option Bool := match D.py x with
  | some d => match D.py y with
    | some e => if d.depth ≤ 64 ∧ e.depth ≤ 64 then some (PyData.eqv d e) else none
    | none => none
  | none => none
/-- flat things that are the same -/
def flatEq : D → D → Bool
  | .non, .non => true
  | .bl a, .bl b => a == b
  | .int a, .int b => decide (a = b)
  | .str a, .str b => decide (a = b)
  | _, _ => false
/-- dicts of the same keys and flat things -/
def dctSame (ks ls : List (Key × D)) : Bool := decide (ks.length = ls.length) && ks.all fun p => match valD ls p.1 with
  | some d => flatEq p.2 d
  | none => false
def eqC (x y : D) : Option Bool := match x, y with
  | .dct ks, .dct ls => if dctSame ks ls then some true else none
  | .lst xs, .lst ys => match eqP (.lst xs) (.lst ys) with
    | some b => some b
    | none => if xs.length = ys.length then none else some false
  | x, y => eqP x y
def eqD (x y : D) : Option Bool := match eqS x y with
  | some b => some b
  | none => eqC x y
def gEq (x y : D) : Option D := match eqD x y with
  | some b => some (.bl b)
  | none => none
def gNe (x y : D) : Option D := match eqD x y with
  | some b => some (.bl (!b))
  | none => none
theorem VRep.sc {K : PySem.W.Frag} {cA : Str → Option Addr} {F H : Hp} {x y : V} {dx dy : D} {b : Bool} (hx : VRep K cA F H x dx) (hy : VRep K cA F H y dy) (e : eqS dx dy = some b) : scal x y = true ∧ decide (x = y) = b := by
  have f : ∀ {v : V} {d : D}, VRep K cA F H v d → (d = .non → v = .non) ∧ (∀ b, d = .bl b → v = .bl b) ∧ (∀ b, d = .int b → v = .int b) ∧ (∀ b, d = .str b → v = .str b) := fun {v d} r => by
    refine ⟨fun e => ?_, fun b e => ?_, fun b e => ?_, fun b e => ?_⟩ <;> (subst e; cases r with | rep r => cases r; rfl)
  obtain ⟨x1, x2, x3, x4⟩ := f hx
  obtain ⟨y1, y2, y3, y4⟩ := f hy
  cases dx <;> cases dy <;> first | (cases e; done) | skip
  all_goals first
    | (cases x1 rfl; cases y1 rfl; cases e; exact ⟨rfl, by simp⟩)
    | (cases x1 rfl; cases y2 _ rfl; cases e; exact ⟨rfl, by simp⟩)
    | (cases x1 rfl; cases y3 _ rfl; cases e; exact ⟨rfl, by simp⟩)
    | (cases x1 rfl; cases y4 _ rfl; cases e; exact ⟨rfl, by simp⟩)
    | (cases x2 _ rfl; cases y1 rfl; cases e; exact ⟨rfl, by simp⟩)
    | (cases x2 _ rfl; cases y2 _ rfl; cases e; exact ⟨rfl, dec_bl⟩)
    | (cases x2 _ rfl; cases y4 _ rfl; cases e; exact ⟨rfl, by simp⟩)
    | (cases x3 _ rfl; cases y1 rfl; cases e; exact ⟨rfl, by simp⟩)
    | (cases x3 _ rfl; cases y3 _ rfl; cases e; exact ⟨rfl, by simp⟩)
    | (cases x3 _ rfl; cases y4 _ rfl; cases e; exact ⟨rfl, by simp⟩)
    | (cases x4 _ rfl; cases y1 rfl; cases e; exact ⟨rfl, by simp⟩)
    | (cases x4 _ rfl; cases y2 _ rfl; cases e; exact ⟨rfl, by simp⟩)
    | (cases x4 _ rfl; cases y3 _ rfl; cases e; exact ⟨rfl, by simp⟩)
    | (cases x4 _ rfl; cases y4 _ rfl; cases e; exact ⟨rfl, by simp⟩)
theorem Gd.hu64 {W : Wd} {N : List Str} {sc : Scp} {X : Cx} (gd : Gd W N sc X) : X.A.units + 65 < cLine := by
  have := gd.hr.un
  omega
theorem eqP_some {x y : D} {b : Bool} (h : eqP x y = some b) : ∃ d e, D.py x = some d ∧ D.py y = some e ∧ d.depth ≤ 64 ∧ e.depth ≤ 64 ∧ b = PyData.eqv d e := by
  unfold eqP at h
  split at h
  rotate_left
  · cases h
  rename_i d e1
  split at h
  rotate_left
  · cases h
  rename_i e e2
  split at h
  rotate_left
  · cases h
  rename_i hd
  cases h
  exact ⟨d, e, e1, e2, hd.1, hd.2, rfl⟩
theorem shaped_py {x : D} {d : PyData} (h : D.py x = some d) (hd : d.depth ≤ 64) : SeqAt.shaped d = true := by
  unfold SeqAt.shaped
  rw [py_can h, decide_eq_true hd]; rfl
theorem op_eqDk {X : Cx} (hu : X.A.units < cLine) : OpR X (compareOp .Eq) (fun x y H Q => ∃ a b ks ls, x = .ref a ∧ y = .ref b ∧ Rd H a (.dK ks) ∧ Rd H b (.dK ls) ∧ ks.length = ls.length ∧ (∀ p ∈ ks, valV ls p.1 = some p.2 ∧ flatB p.2 = true) ∧ Q (.bl true) H) := by
  intro pins s σ H x y v u Q I rx ry h
  obtain ⟨a, b, ks, ls, ex, ey, ea, eb, hlen, hp, q⟩ := h
  subst ex ey
  cases rx; cases ry
  obtain ⟨_, h1, va, ra, da⟩ := dk_rd I.hok ea
  obtain ⟨_, h2, vb, rb, db⟩ := dk_rd I.hok eb
  exact PySem.W.keq_eq (knd := mixKind X.prog X.w) (r := true) h1 h2 da db hu (fun _ => hits_all rb ra hp) (fin_bl I q (by simp [← ra.length, ← rb.length, hlen]))
theorem op_neDk {X : Cx} (hu : X.A.units < cLine) : OpR X (compareOp .NotEq) (fun x y H Q => ∃ a b ks ls, x = .ref a ∧ y = .ref b ∧ Rd H a (.dK ks) ∧ Rd H b (.dK ls) ∧ ks.length = ls.length ∧ (∀ p ∈ ks, valV ls p.1 = some p.2 ∧ flatB p.2 = true) ∧ Q (.bl false) H) := by
  intro pins s σ H x y v u Q I rx ry h
  obtain ⟨a, b, ks, ls, ex, ey, ea, eb, hlen, hp, q⟩ := h
  subst ex ey
  cases rx; cases ry
  obtain ⟨_, h1, va, ra, da⟩ := dk_rd I.hok ea
  obtain ⟨_, h2, vb, rb, db⟩ := dk_rd I.hok eb
  exact PySem.W.keq_ne (knd := mixKind X.prog X.w) (r := true) h1 h2 da db hu (fun _ => hits_all rb ra hp) (fin_bl I q (by simp [← ra.length, ← rb.length, hlen]))
theorem flatEq_rep {K : PySem.W.Frag} {cA : Str → Option Addr} {F : Hp} {v w : V} {d e : D} (h : flatEq d e = true) (r : Rep K cA F v d) (r' : Rep K cA F w e) : w = v ∧ flatB v = true := by
  cases d <;> cases e <;> first | (cases h; done) | skip
  · cases r; cases r'; exact ⟨rfl, rfl⟩
  · cases r; cases r'; have := eq_of_beq h; subst this; exact ⟨rfl, rfl⟩
  · cases r; cases r'; have := of_decide_eq_true h; subst this; exact ⟨rfl, rfl⟩
  · cases r; cases r'; have := of_decide_eq_true h; subst this; exact ⟨rfl, rfl⟩
theorem dctSame_rep {K : PySem.W.Frag} {cA : Str → Option Addr} {F : Hp} {ks ls : List (Key × D)} {kvs lvs : List (Key × V)} (h : dctSame ks ls = true) (e1 : kvs.map (·.1) = ks.map (·.1)) (r1 : Reps K cA F (kvs.map (·.2)) (ks.map (·.2))) (e2 : lvs.map (·.1) = ls.map (·.1)) (r2 : Reps K cA F (lvs.map (·.2)) (ls.map (·.2))) :
    kvs.length = lvs.length ∧ ∀ p ∈ kvs, valV lvs p.1 = some p.2 ∧ flatB p.2 = true := by
  unfold dctSame at h
  obtain ⟨h1, h2⟩ := Bool.and_eq_true_iff.mp h
  have l1 : kvs.length = ks.length := by simpa using congrArg List.length e1
  have l2 : lvs.length = ls.length := by simpa using congrArg List.length e2
  refine ⟨by rw [l1, l2]; exact of_decide_eq_true h1, fun p hp => ?_⟩
  obtain ⟨i, hi, ei⟩ := List.mem_iff_getElem.mp hp
  have hv : (kvs.map (·.2))[i]? = some p.2 := by rw [List.getElem?_map, List.getElem?_eq_getElem hi, ei]; rfl
  obtain ⟨d, hd, rd⟩ := r1.getV hv
  have hk : (ks.map (·.1))[i]? = some p.1 := by rw [← e1, List.getElem?_map, List.getElem?_eq_getElem hi, ei]; rfl
  rw [List.getElem?_map] at hd hk
  cases e : ks[i]? with
  | none => rw [e] at hd; cases hd
  | some q =>
    rw [e] at hd hk
    have hq := List.all_eq_true.mp h2 q (List.mem_of_getElem? e)
    cases hd
    have hk : q.1 = p.1 := Option.some.inj hk
    rw [hk] at hq
    cases e3 : valD ls p.1 with
    | none => rw [e3] at hq; cases hq
    | some d' =>
      rw [e3] at hq
      obtain ⟨w, hw, rw'⟩ := (val_rep (k := p.1) e2 r2).1 d' e3
      obtain ⟨z1, z2⟩ := flatEq_rep hq rd rw'
      rw [hw, z1]
      exact ⟨rfl, z2⟩
theorem eqC_some {x y : D} {b : Bool} (h : eqC x y = some b) : eqP x y = some b ∨ (b = true ∧ ∃ ks ls, x = .dct ks ∧ y = .dct ls ∧ dctSame ks ls = true) ∨ (b = false ∧ ∃ xs ys, x = .lst xs ∧ y = .lst ys ∧ xs.length ≠ ys.length) := by
  unfold eqC at h
  split at h
  · split at h
    · rename_i ks ls hh; cases h; exact .inr (.inl ⟨rfl, _, _, rfl, rfl, hh⟩)
    · cases h
  · rename_i xs ys
    split at h
    · rename_i b' e
      cases h
      exact .inl e
    · split at h
      · cases h
      · rename_i hl; cases h; exact .inr (.inr ⟨rfl, _, _, rfl, rfl, hl⟩)
  · exact .inl h
theorem op_eqLen {X : Cx} (hu : X.A.units < cLine) : OpR X (compareOp .Eq) (fun x y H Q => ∃ a b xs ys, x = .ref a ∧ y = .ref b ∧ SqL X.K H a xs ∧ SqL X.K H b ys ∧ xs.length ≠ ys.length ∧ Q (.bl false) H) := by
  intro pins s σ H x y v u Q I rx ry h
  obtain ⟨a, b, xs, ys, ex, ey, ea, eb, hlen, q⟩ := h
  subst ex ey
  cases rx; cases ry
  obtain ⟨i1, v1, ⟨o1, n1, p1, c1, _, d1⟩, _⟩ := I.list ea
  obtain ⟨i2, v2, ⟨o2, n2, p2, c2, _, d2⟩, _⟩ := I.list eb
  have hs : (i1.toArray.size != i2.toArray.size) = true := by
    have e1 := v1.length; have e2 := v2.length
    simp; omega
  exact PySem.W.cmp_ofEq (PySem.SeqAt.RcAt.lists_lengths ⟨o1, p1, c1, n1, d1⟩ ⟨o2, p2, c2, n2, d2⟩ hs hu X.prog X.w _ _ ⟨.bl _, H, I, rfl, q⟩)
theorem op_neLen {X : Cx} (hu : X.A.units < cLine) : OpR X (compareOp .NotEq) (fun x y H Q => ∃ a b xs ys, x = .ref a ∧ y = .ref b ∧ SqL X.K H a xs ∧ SqL X.K H b ys ∧ xs.length ≠ ys.length ∧ Q (.bl true) H) := by
  intro pins s σ H x y v u Q I rx ry h
  obtain ⟨a, b, xs, ys, ex, ey, ea, eb, hlen, q⟩ := h
  subst ex ey
  cases rx; cases ry
  obtain ⟨i1, v1, ⟨o1, n1, p1, c1, _, d1⟩, _⟩ := I.list ea
  obtain ⟨i2, v2, ⟨o2, n2, p2, c2, _, d2⟩, _⟩ := I.list eb
  have hs : (i1.toArray.size != i2.toArray.size) = true := by
    have e1 := v1.length; have e2 := v2.length
    simp; omega
  exact PySem.W.cmp_ofNotEq (PySem.SeqAt.RcNeAt.lists_lengths ⟨o1, p1, c1, n1, d1⟩ ⟨o2, p2, c2, n2, d2⟩ hs hu X.prog X.w _ _ ⟨.bl _, H, I, rfl, q⟩)
theorem ops_eq : OpS (compareOp .Eq) gEq := by
  intro W N sc X gd F H x y dx dy r hs hx hy e Q k
  unfold gEq eqD at e
  cases e1 : eqS dx dy with
  | some b =>
    simp only [e1, Option.some.injEq] at e
    subst e
    obtain ⟨h1, h2⟩ := hx.sc hy e1
    exact ⟨rEq, op_eq, h1, by rw [h2]; exact k _ F H (.refl hs) (.bl b)⟩
  | none =>
    simp only [e1] at e
    cases e2 : eqC dx dy with
    | none => simp [e2] at e
    | some b =>
      simp only [e2, Option.some.injEq] at e
      subst e
      rcases eqC_some e2 with e2 | ⟨rfl, ks, ls, rfl, rfl, hh⟩ | ⟨rfl, xs, ys, rfl, rfl, hh⟩
      rotate_left
      · obtain ⟨p, kvs, rfl, q1, n1, r1⟩ := hx.dct0 hs
        obtain ⟨p2, lvs, rfl, q2, n2, r2⟩ := hy.dct0 hs
        obtain ⟨z1, z2⟩ := dctSame_rep hh n1 r1 n2 r2
        exact ⟨_, op_eqDk (by have := gd.hu64; omega), p, p2, kvs, lvs, rfl, rfl, q1, q2, z1, z2, k _ F H (.refl hs) (.bl _)⟩
      · obtain ⟨p, vs, rfl, q1, r1⟩ := hx.lst_ hs
        obtain ⟨p2, ws, rfl, q2, r2⟩ := hy.lst_ hs
        exact ⟨_, op_eqLen (by have := gd.hu64; omega), p, p2, vs, ws, rfl, rfl, .of q1, .of q2, by rw [r1.length, r2.length]; exact hh, k _ F H (.refl hs) (.bl _)⟩
      obtain ⟨d, e', p1, p2, h1, h2, rfl⟩ := eqP_some e2
      exact ⟨rEqD X.K, op_eqD (by have := gd.hu64; omega), d, e', by rw [gd.K]; exact hx.dp hs p1, by rw [gd.K]; exact hy.dp hs p2, shaped_py p1 h1, shaped_py p2 h2, k _ F H (.refl hs) (.bl _)⟩
theorem ops_ne : OpS (compareOp .NotEq) gNe := by
  intro W N sc X gd F H x y dx dy r hs hx hy e Q k
  unfold gNe eqD at e
  cases e1 : eqS dx dy with
  | some b =>
    simp only [e1, Option.some.injEq] at e
    subst e
    obtain ⟨h1, h2⟩ := hx.sc hy e1
    exact ⟨rNe, op_ne, h1, by rw [h2]; exact k _ F H (.refl hs) (.bl _)⟩
  | none =>
    simp only [e1] at e
    cases e2 : eqC dx dy with
    | none => simp [e2] at e
    | some b =>
      simp only [e2, Option.some.injEq] at e
      subst e
      rcases eqC_some e2 with e2 | ⟨rfl, ks, ls, rfl, rfl, hh⟩ | ⟨rfl, xs, ys, rfl, rfl, hh⟩
      rotate_left
      · obtain ⟨p, kvs, rfl, q1, n1, r1⟩ := hx.dct0 hs
        obtain ⟨p2, lvs, rfl, q2, n2, r2⟩ := hy.dct0 hs
        obtain ⟨z1, z2⟩ := dctSame_rep hh n1 r1 n2 r2
        exact ⟨_, op_neDk (by have := gd.hu64; omega), p, p2, kvs, lvs, rfl, rfl, q1, q2, z1, z2, k _ F H (.refl hs) (.bl _)⟩
      · obtain ⟨p, vs, rfl, q1, r1⟩ := hx.lst_ hs
        obtain ⟨p2, ws, rfl, q2, r2⟩ := hy.lst_ hs
        exact ⟨_, op_neLen (by have := gd.hu64; omega), p, p2, vs, ws, rfl, rfl, .of q1, .of q2, by rw [r1.length, r2.length]; exact hh, k _ F H (.refl hs) (.bl _)⟩
      obtain ⟨d, e', p1, p2, h1, h2, rfl⟩ := eqP_some e2
      exact ⟨rNeD X.K, op_neD (by have := gd.hu64; omega), d, e', by rw [gd.K]; exact hx.dp hs p1, by rw [gd.K]; exact hy.dp hs p2, shaped_py p1 h1, shaped_py p2 h2, k _ F H (.refl hs) (.bl _)⟩
theorem Rep.tup_ {K : PySem.W.Frag} {cA : Str → Option Addr} {F : Hp} {v : V} {ds : List D} (h : Rep K cA F v (.tup ds)) : ∃ p vs, v = .ref p ∧ SqT K F p vs ∧ Reps K cA F vs ds := by
  cases h with | tup q r => exact ⟨_, _, rfl, q, r⟩
/-! ### numbers -/
def gI (g : Int → Int → D) : D → D → Option D
  | .int i, .int j => some (g i j)
  | _, _ => none
theorem ops_i0 {f : Value → Value → Sem Value} {gV : Int → Int → V} {g : Int → Int → D} (ho : ∀ X, OpR X f (rI0 gV)) (hg : ∀ K cA F i j, Rep K cA F (gV i j) (g i j)) : OpS f (gI g) := by
  intro W N sc X gd F H x y dx dy r hs hx hy e Q k
  cases dx with
  | int i => cases dy with
    | int j =>
      cases e
      obtain rfl := hx.int_
      obtain rfl := hy.int_
      exact ⟨_, ho X, i, j, rfl, rfl, k _ F H (.refl hs) (hg _ _ _ i j)⟩
    | _ => cases e
  | _ => cases e
theorem ops_lt : OpS (compareOp .Lt) (gI fun i j => .bl (decide (i < j))) := ops_i0 (fun X => op_lt) fun _ _ _ _ _ => .bl _
theorem ops_le : OpS (compareOp .LtE) (gI fun i j => .bl (decide (i ≤ j))) := ops_i0 (fun X => op_le) fun _ _ _ _ _ => .bl _
theorem ops_gt : OpS (compareOp .Gt) (gI fun i j => .bl (decide (j < i))) := ops_i0 (fun X => op_gt) fun _ _ _ _ _ => .bl _
theorem ops_ge : OpS (compareOp .GtE) (gI fun i j => .bl (decide (j ≤ i))) := ops_i0 (fun X => op_ge) fun _ _ _ _ _ => .bl _
theorem ops_sub : OpS (binaryOp .Sub) (gI fun i j => .int (i - j)) := ops_i0 (fun X => op_sub) fun _ _ _ _ _ => .int _
theorem ops_isub : OpS (inplaceOp .Sub) (gI fun i j => .int (i - j)) := ops_i0 (fun X => iop_sub) fun _ _ _ _ _ => .int _
/-- + -/
def gAdd : D → D → Option D
  | .int i, .int j => some (.int (i + j))
  | .str x, .str y => if x.length + y.length ≤ sizeLine then some (.str (x ++ y)) else none
  | .lst ds, .lst es => if ds.length + es.length ≤ sizeLine then some (.lst (ds ++ es)) else none
  | .tup ds, .tup es => if ds.length + es.length ≤ sizeLine then some (.tup (ds ++ es)) else none
  | _, _ => none
theorem ops_add : OpS (binaryOp .Add) gAdd := by
  intro W N sc X gd F H x y dx dy r hs hx hy e Q k
  cases dx with
  | int i => cases dy with
    | int j =>
      cases e
      obtain rfl := hx.int_
      obtain rfl := hy.int_
      exact ⟨_, op_add, i, j, rfl, rfl, k _ F H (.refl hs) (.int _)⟩
    | _ => cases e
  | str i => cases dy with
    | str j =>
      have e : (if i.length + j.length ≤ sizeLine then some (D.str (i ++ j)) else none) = some r := e
      split at e
      · rename_i hz
        cases e
        obtain rfl := hx.str_
        obtain rfl := hy.str_
        exact ⟨_, op_add_str, i, j, rfl, rfl, hz, k _ F H (.refl hs) (.str _)⟩
      · cases e
    | _ => cases e
  | lst ds => cases dy with
    | lst es =>
      have e : (if ds.length + es.length ≤ sizeLine then some (D.lst (ds ++ es)) else none) = some r := e
      split at e
      · rename_i hz
        cases e
        obtain ⟨p, vs, rfl, q1, r1⟩ := hx.lst_ hs
        obtain ⟨p2, ws, rfl, q2, r2⟩ := hy.lst_ hs
        refine ⟨_, op_cat, p, p2, vs, ws, rfl, rfl, q1, q2, by rw [r1.length, r2.length]; exact hz, fun z hz => ?_⟩
        have n := New.one (o := .lst (vs ++ ws)) hs hz
        exact k _ _ _ n (.lst upd_same ((r1.append r2).mono n.fr))
      · cases e
    | _ => cases e
  | tup ds => cases dy with
    | tup es =>
      have e : (if ds.length + es.length ≤ sizeLine then some (D.tup (ds ++ es)) else none) = some r := e
      split at e
      · rename_i hz
        cases e
        obtain ⟨p, vs, rfl, q1, r1⟩ := hx.tupF.tup_
        obtain ⟨p2, ws, rfl, q2, r2⟩ := hy.tupF.tup_
        refine ⟨_, op_catA, p, p2, vs, ws, rfl, rfl, by rw [gd.K]; exact hs.sqT q1, by rw [gd.K]; exact hs.sqT q2, by rw [r1.length, r2.length]; exact hz, fun e1 => ?_, fun e1 e2 => ?_, fun e1 e2 z hz => ?_⟩
        · subst e1
          have := r1.length
          have e3 : ds = [] := by cases ds with | nil => rfl | cons _ _ => simp at this
          subst e3
          exact k _ F H (.refl hs) (.tup q2 r2)
        · subst e2
          have := r2.length
          have e3 : es = [] := by cases es with | nil => rfl | cons _ _ => simp at this
          subst e3
          rw [List.append_nil] at k
          exact k _ F H (.refl hs) (.tup q1 r1)
        · have n := New.one (o := .tup (vs ++ ws)) hs hz
          exact k _ _ _ n (.tup (.inl (.inl upd_same)) ((r1.append r2).mono n.fr))
      · cases e
    | _ => cases e
  | _ => cases e
/-- name += .. -/
def gIadd : D → D → Option D
  | .int i, .int j => some (.int (i + j))
  | .str x, .str y => if x.length + y.length ≤ sizeLine then some (.str (x ++ y)) else none
  | _, _ => none
theorem ops_iadd : OpS (inplaceOp .Add) gIadd := by
  intro W N sc X gd F H x y dx dy r hs hx hy e Q k
  cases dx with
  | int i => cases dy with
    | int j =>
      cases e
      obtain rfl := hx.int_
      obtain rfl := hy.int_
      exact ⟨_, iop_add, i, j, rfl, rfl, k _ F H (.refl hs) (.int _)⟩
    | _ => cases e
  | str i => cases dy with
    | str j =>
      have e : (if i.length + j.length ≤ sizeLine then some (D.str (i ++ j)) else none) = some r := e
      split at e
      · rename_i hz
        cases e
        obtain rfl := hx.str_
        obtain rfl := hy.str_
        exact ⟨_, iop_add_str, i, j, rfl, rfl, hz, k _ F H (.refl hs) (.str _)⟩
      · cases e
    | _ => cases e
  | _ => cases e
def mulOk (i j : Int) : Bool := decide (-(2 ^ 64) < i ∧ i < 2 ^ 64) || decide (-(2 ^ 64) < j ∧ j < 2 ^ 64)
def gMul : D → D → Option D
  | .int i, .int j => if mulOk i j then some (.int (i * j)) else none
  | _, _ => none
theorem mulOk_ok {i j : Int} (h : mulOk i j = true) : CMul i j := by
  unfold mulOk at h
  rcases Bool.or_eq_true_iff.mp h with h | h
  · exact .inl (of_decide_eq_true h)
  · exact .inr (of_decide_eq_true h)
theorem ops_mulG {f : Value → Value → Sem Value} (ho : ∀ X, OpR X f (rI CMul fun i j => .int (i * j))) : OpS f gMul := by
  intro W N sc X gd F H x y dx dy r hs hx hy e Q k
  cases dx with
  | int i => cases dy with
    | int j =>
      have e : (if mulOk i j then some (D.int (i * j)) else none) = some r := e
      split at e
      · rename_i hz
        cases e
        obtain rfl := hx.int_
        obtain rfl := hy.int_
        exact ⟨_, ho X, i, j, rfl, rfl, mulOk_ok hz, k _ F H (.refl hs) (.int _)⟩
      · cases e
    | _ => cases e
  | _ => cases e
theorem ops_mul : OpS (binaryOp .Mult) gMul := ops_mulG fun X => op_mul
theorem ops_imul : OpS (inplaceOp .Mult) gMul := ops_mulG fun X => iop_mul
def gDiv : D → D → Option D
  | .int i, .int j => if 0 < j ∧ j < 1073741824 then some (.int (i / j)) else none
  | _, _ => none
theorem ops_div : OpS (binaryOp .FloorDiv) gDiv := by
  intro W N sc X gd F H x y dx dy r hs hx hy e Q k
  cases dx with
  | int i => cases dy with
    | int j =>
      have e : (if 0 < j ∧ j < 1073741824 then some (D.int (i / j)) else none) = some r := e
      split at e
      · rename_i hz
        cases e
        obtain rfl := hx.int_
        obtain rfl := hy.int_
        exact ⟨_, op_fdiv, i, j, rfl, rfl, hz, k _ F H (.refl hs) (.int _)⟩
      · cases e
    | _ => cases e
  | _ => cases e
def gMod : D → D → Option D
  | .int i, .int j => if 0 < j then some (.int (i % j)) else none
  | _, _ => none
theorem ops_mod : OpS (binaryOp .Mod) gMod := by
  intro W N sc X gd F H x y dx dy r hs hx hy e Q k
  cases dx with
  | int i => cases dy with
    | int j =>
      have e : (if 0 < j then some (D.int (i % j)) else none) = some r := e
      split at e
      · rename_i hz
        cases e
        obtain rfl := hx.int_
        obtain rfl := hy.int_
        exact ⟨_, op_mod, i, j, rfl, rfl, hz, k _ F H (.refl hs) (.int _)⟩
      · cases e
    | _ => cases e
  | _ => cases e
def gPow : D → D → Option D
  | .int i, .int j => if 0 ≤ j ∧ j ≤ 1000000 ∧ i.natAbs < 2 ^ 64 then some (.int (i ^ j.toNat)) else none
  | _, _ => none
theorem ops_pow : OpS (binaryOp .Pow) gPow := by
  intro W N sc X gd F H x y dx dy r hs hx hy e Q k
  cases dx with
  | int i => cases dy with
    | int j =>
      have e : (if 0 ≤ j ∧ j ≤ 1000000 ∧ i.natAbs < 2 ^ 64 then some (D.int (i ^ j.toNat)) else none) = some r := e
      split at e
      · rename_i hz
        cases e
        obtain rfl := hx.int_
        obtain rfl := hy.int_
        exact ⟨_, op_pow, i, j, rfl, rfl, hz, k _ F H (.refl hs) (.int _)⟩
      · cases e
    | _ => cases e
  | _ => cases e
def gNeg : D → Option D
  | .int i => some (.int (-i))
  | _ => none
theorem uns_neg : UnS (unaryOp .USub) gNeg := by
  intro W N sc X gd F H x dx r hs hx e Q k
  cases dx with
  | int i =>
    cases e
    obtain rfl := hx.int_
    exact ⟨_, un_neg, i, rfl, k _ F H (.refl hs) (.int _)⟩
  | _ => cases e
/-! ### is None -/
def isN : D → Bool
  | .non => true
  | _ => false
def gIs (x y : D) : Option D := match y with
  | .non => some (.bl (isN x))
  | _ => none
def gIsNot (x y : D) : Option D := match y with
  | .non => some (.bl (!isN x))
  | _ => none
theorem VRep.isN {K : PySem.W.Frag} {cA : Str → Option Addr} {F H : Hp} {x : V} {d : D} (h : VRep K cA F H x d) : decide (x = .non) = G.isN d := by
  cases h with
  | rep r => cases r <;> simp [G.isN]
  | _ => simp [G.isN]
theorem ops_is : OpS (compareOp .Is) gIs := by
  intro W N sc X gd F H x y dx dy r hs hx hy e Q k
  cases dy with
  | non =>
    cases e
    cases hy with | rep q => cases q; exact ⟨_, op_isN, rfl, by rw [hx.isN]; exact k _ F H (.refl hs) (.bl _)⟩
  | _ => cases e
theorem ops_isnot : OpS (compareOp .IsNot) gIsNot := by
  intro W N sc X gd F H x y dx dy r hs hx hy e Q k
  cases dy with
  | non =>
    cases e
    cases hy with | rep q => cases q; exact ⟨_, op_notN, rfl, by rw [hx.isN]; exact k _ F H (.refl hs) (.bl _)⟩
  | _ => cases e
/-! ### in -/
def inP (x : D) (ds : List D) : Option Bool := match D.py x with
  | some d => match pys ds with
    | some es => if d.depth ≤ 64 then some (es.any fun z => PyData.eqv z d) else none
    | none => none
  | none => none
def inD : D → D → Option Bool
  | .str x, .str y => match x.cps.toList with
    | [c] => some (decide (c ∈ y.cps.toList))
    | _ => none
  | x, .tup ds => inP x ds
  | x, .lst ds => inP x ds
  | x, .dct kds => match keyD x with
    | some k => some (valD kds k).isSome
    | none => none
  | _, _ => none
def gIn (x y : D) : Option D := match inD x y with
  | some b => some (.bl b)
  | none => none
def gNotIn (x y : D) : Option D := match inD x y with
  | some b => some (.bl (!b))
  | none => none
theorem op_inTup {X : Cx} (hu : X.A.units + 65 < cLine) : OpR X (compareOp .In) (fun x y H Q => ∃ d ds, Dp X.K H x d ∧ Dp X.K H y (.tuple ds) ∧ SeqAt.shaped d = true ∧ PyData.canLayAll0 ds = true ∧ Q (.bl (ds.any fun z => PyData.eqv z d)) H) := by
  intro pins s σ H x y v u Q I rx ry h
  obtain ⟨d, ds, hd, he, sd, se, q⟩ := h
  obtain ⟨as, r1⟩ := Dp.reads I d x v hd rx
  obtain ⟨bs, r2⟩ := Dp.reads I (.tuple ds) y u he ry
  exact SeqAt.in_tuple_reads r2 r1 se (SeqAt.canLay_of_shaped sd) (PyProof.Rows.room_in_shaped sd hu) ⟨.bl _, H, I, rfl, q⟩
theorem op_notInTup {X : Cx} (hu : X.A.units + 65 < cLine) : OpR X (compareOp .NotIn) (fun x y H Q => ∃ d ds, Dp X.K H x d ∧ Dp X.K H y (.tuple ds) ∧ SeqAt.shaped d = true ∧ PyData.canLayAll0 ds = true ∧ Q (.bl (!ds.any fun z => PyData.eqv z d)) H) := by
  intro pins s σ H x y v u Q I rx ry h
  obtain ⟨d, ds, hd, he, sd, se, q⟩ := h
  obtain ⟨as, r1⟩ := Dp.reads I d x v hd rx
  obtain ⟨bs, r2⟩ := Dp.reads I (.tuple ds) y u he ry
  exact SeqAt.notIn_tuple_reads r2 r1 se (SeqAt.canLay_of_shaped sd) (PyProof.Rows.room_in_shaped sd hu) ⟨.bl _, H, I, rfl, q⟩
theorem op_inLst {X : Cx} (hu : X.A.units + 65 < cLine) : OpR X (compareOp .In) (fun x y H Q => ∃ d ds, Dp X.K H x d ∧ Dp X.K H y (.list ds) ∧ SeqAt.shaped d = true ∧ PyData.canLayAll0 ds = true ∧ Q (.bl (ds.any fun z => PyData.eqv z d)) H) := by
  intro pins s σ H x y v u Q I rx ry h
  obtain ⟨d, ds, hd, he, sd, se, q⟩ := h
  obtain ⟨as, r1⟩ := Dp.reads I d x v hd rx
  obtain ⟨bs, r2⟩ := Dp.reads I (.list ds) y u he ry
  exact SeqAt.in_list_reads r2 r1 se (SeqAt.canLay_of_shaped sd) (PyProof.Rows.room_in_shaped sd hu) ⟨.bl _, H, I, rfl, q⟩
theorem op_notInLst {X : Cx} (hu : X.A.units + 65 < cLine) : OpR X (compareOp .NotIn) (fun x y H Q => ∃ d ds, Dp X.K H x d ∧ Dp X.K H y (.list ds) ∧ SeqAt.shaped d = true ∧ PyData.canLayAll0 ds = true ∧ Q (.bl (!ds.any fun z => PyData.eqv z d)) H) := by
  intro pins s σ H x y v u Q I rx ry h
  obtain ⟨d, ds, hd, he, sd, se, q⟩ := h
  obtain ⟨as, r1⟩ := Dp.reads I d x v hd rx
  obtain ⟨bs, r2⟩ := Dp.reads I (.list ds) y u he ry
  exact SeqAt.notIn_list_reads r2 r1 se (SeqAt.canLay_of_shaped sd) (PyProof.Rows.room_in_shaped sd hu) ⟨.bl _, H, I, rfl, q⟩
theorem op_inDct {X : Cx} (hu : X.A.units + 1 < cLine) : OpR X (compareOp .In) (fun x y H Q => ∃ a ov, y = .ref a ∧ DGet H a x ov ∧ Q (.bl ov.isSome) H) := by
  intro pins s σ H x y v u Q I rx ry h
  obtain ⟨a, ov, rfl, g, q⟩ := h
  obtain rfl : u = Value.ref a := ry
  exact d_in hu I g rx fun s3 I3 => ⟨.bl ov.isSome, H, I3, rfl, q⟩
theorem op_notInDct {X : Cx} (hu : X.A.units + 1 < cLine) : OpR X (compareOp .NotIn) (fun x y H Q => ∃ a ov, y = .ref a ∧ DGet H a x ov ∧ Q (.bl (!ov.isSome)) H) := by
  intro pins s σ H x y v u Q I rx ry h
  obtain ⟨a, ov, rfl, g, q⟩ := h
  obtain rfl : u = Value.ref a := ry
  exact d_notIn hu I g rx fun s3 I3 => ⟨.bl (!ov.isSome), H, I3, rfl, q⟩
theorem inP_some {x : D} {ds : List D} {b : Bool} (h : inP x ds = some b) : ∃ d es, D.py x = some d ∧ pys ds = some es ∧ d.depth ≤ 64 ∧ b = es.any fun z => PyData.eqv z d := by
  unfold inP at h
  split at h
  rotate_left
  · cases h
  rename_i d e1
  split at h
  rotate_left
  · cases h
  rename_i e e2
  split at h
  rotate_left
  · cases h
  rename_i hd
  cases h
  exact ⟨d, e, e1, e2, hd, rfl⟩
theorem Str.one {x : Str} {c : Nat} (h : x.cps.toList = [c]) : x = ⟨#[c]⟩ := by
  obtain ⟨⟨l⟩⟩ := x
  simp at h
  subst h
  rfl
theorem in_cases {x y : D} {b : Bool} (h : inD x y = some b) : (∃ s c z, x = .str s ∧ y = .str z ∧ s = ⟨#[c]⟩ ∧ b = decide (c ∈ z.cps.toList)) ∨ (∃ ds, y = .tup ds ∧ inP x ds = some b) ∨ (∃ ds, y = .lst ds ∧ inP x ds = some b) ∨
    ∃ kds k, y = .dct kds ∧ keyD x = some k ∧ b = (valD kds k).isSome := by
  cases y with
  | tup ds => exact .inr (.inl ⟨ds, rfl, by cases x <;> exact h⟩)
  | lst ds => exact .inr (.inr (.inl ⟨ds, rfl, by cases x <;> exact h⟩))
  | dct kds =>
    have h2 : (match keyD x with | some k => some (valD kds k).isSome | none => none) = some b := by cases x <;> exact h
    split at h2
    · rename_i k e; cases h2; exact .inr (.inr (.inr ⟨kds, k, rfl, e, rfl⟩))
    · cases h2
  | str z => cases x with
    | str s =>
      have h2 : (match s.cps.toList with | [c] => some (decide (c ∈ z.cps.toList)) | _ => none) = some b := h
      split at h2
      · rename_i c e; cases h2; exact .inl ⟨s, c, z, rfl, rfl, Str.one e, rfl⟩
      · cases h2
    | _ => cases h
  | _ => cases x <;> cases h
theorem ops_in : OpS (compareOp .In) gIn := by
  intro W N sc X gd F H x y dx dy r hs hx hy e Q k
  unfold gIn at e
  split at e
  rotate_left
  · cases e
  rename_i b e1
  cases e
  have kk := fun v (h : Rep W.K W.cA F v (.bl b)) => k v F H (.refl hs) h
  rcases in_cases e1 with ⟨s, c, z, rfl, rfl, rfl, rfl⟩ | ⟨ds, rfl, e2⟩ | ⟨ds, rfl, e2⟩ | ⟨kds, kq, rfl, e2, rfl⟩
  · obtain rfl := hx.str_
    obtain rfl := hy.str_
    exact ⟨_, op_in_sign, c, z, rfl, rfl, kk _ (.bl _)⟩
  · obtain ⟨d, es, p1, p2, hd, rfl⟩ := inP_some e2
    exact ⟨_, op_inTup gd.hu64, d, es, by rw [gd.K]; exact hx.dp hs p1, by rw [gd.K]; exact hy.dp hs (by unfold D.py; rw [p2]), shaped_py p1 hd, pys_can p2, kk _ (.bl _)⟩
  · obtain ⟨d, es, p1, p2, hd, rfl⟩ := inP_some e2
    exact ⟨_, op_inLst gd.hu64, d, es, by rw [gd.K]; exact hx.dp hs p1, by rw [gd.K]; exact hy.dp hs (by unfold D.py; rw [p2]), shaped_py p1 hd, pys_can p2, kk _ (.bl _)⟩
  · obtain ⟨p, kvs, rfl, hq, en, rs⟩ := hy.dct0 hs
    have hkv := keyD_rep hx e2
    subst hkv
    have vv := val_rep (k := kq) en rs
    have e3 : (valV kvs kq).isSome = (valD kds kq).isSome := by
      cases e4 : valD kds kq with
      | none => rw [vv.2 e4]; all_goals rfl
      | some d => obtain ⟨w, hw, _⟩ := vv.1 d e4; rw [hw]; rfl
    exact ⟨_, op_inDct gd.hu, p, valV kvs kq, rfl, .inl ⟨kvs, kq, hq, rfl, rfl⟩, by rw [e3]; exact kk _ (.bl _)⟩
theorem ops_notin : OpS (compareOp .NotIn) gNotIn := by
  intro W N sc X gd F H x y dx dy r hs hx hy e Q k
  unfold gNotIn at e
  split at e
  rotate_left
  · cases e
  rename_i b e1
  cases e
  have kk := fun v (h : Rep W.K W.cA F v (.bl (!b))) => k v F H (.refl hs) h
  rcases in_cases e1 with ⟨s, c, z, rfl, rfl, rfl, rfl⟩ | ⟨ds, rfl, e2⟩ | ⟨ds, rfl, e2⟩ | ⟨kds, kq, rfl, e2, rfl⟩
  · obtain rfl := hx.str_
    obtain rfl := hy.str_
    exact ⟨_, op_notIn_sign, c, z, rfl, rfl, kk _ (.bl _)⟩
  · obtain ⟨d, es, p1, p2, hd, rfl⟩ := inP_some e2
    exact ⟨_, op_notInTup gd.hu64, d, es, by rw [gd.K]; exact hx.dp hs p1, by rw [gd.K]; exact hy.dp hs (by unfold D.py; rw [p2]), shaped_py p1 hd, pys_can p2, kk _ (.bl _)⟩
  · obtain ⟨d, es, p1, p2, hd, rfl⟩ := inP_some e2
    exact ⟨_, op_notInLst gd.hu64, d, es, by rw [gd.K]; exact hx.dp hs p1, by rw [gd.K]; exact hy.dp hs (by unfold D.py; rw [p2]), shaped_py p1 hd, pys_can p2, kk _ (.bl _)⟩
  · obtain ⟨p, kvs, rfl, hq, en, rs⟩ := hy.dct0 hs
    have hkv := keyD_rep hx e2
    subst hkv
    have vv := val_rep (k := kq) en rs
    have e3 : (valV kvs kq).isSome = (valD kds kq).isSome := by
      cases e4 : valD kds kq with
      | none => rw [vv.2 e4]; all_goals rfl
      | some d => obtain ⟨w, hw, _⟩ := vv.1 d e4; rw [hw]; rfl
    exact ⟨_, op_notInDct gd.hu, p, valV kvs kq, rfl, .inl ⟨kvs, kq, hq, rfl, rfl⟩, by rw [e3]; exact kk _ (.bl _)⟩
end G
/-! Truths of all things; == of own classes; chains; isinstance; raise. -/
namespace G
open PySem L2
def truD : D → Option Bool
  | .non => some false
  | .bl b => some b
  | .int i => some (i != 0)
  | .str y => if y.length ≤ sizeLine then some ((y.length : Int) != 0) else none
  | .tup ds => some (!ds.isEmpty)
  | .lst ds => some (!ds.isEmpty)
  | .scr ns => some (!ns.isEmpty)
  | _ => none
/-- mt: what __bool__ of each class means; pt: the classes that have neither __bool__ nor __len__ -/
def truS (mt : Str → Option FSem) (pt : Str → Bool) (s : S) (M1 : Ms) : Option (Bool × Ms) := match view M1 s with
  | some (.obj c _) => match mt c with
    | some f => match f [s] M1 with
      | some (.d (.bl b), M2) => some (b, M2)
      | _ => none
    | none => if pt c then some (true, M1) else none
  | some d => match truD d with
    | some b => some (b, M1)
    | none => none
  | none => none
def eTru (mt : Str → Option FSem) (pt : Str → Bool) (fa : EF) : TF := fun env M => match fa env M with
  | some (s, M1) => truS mt pt s M1
  | none => none
def PlainTru (W : Wd) (pt : Str → Bool) : Prop := ∀ c C, pt c = true → W.cA c = some C → PySem.W.findIn W.K (.ref C) "__bool__" = some none ∧ PySem.W.findIn W.K (.ref C) "__len__" = some none
def tStar (X : Cx) : V → Hp → (Bool → Hp → Prop) → Prop := fun x H Q => ∃ r, TruR X r ∧ r x H Q
theorem TruR.star (X : Cx) : TruR X (tStar X) := fun pins s σ H x v Q I rx ⟨r, h, q⟩ => h pins s σ H x v Q I rx q
section
variable {W : Wd} {N : List Str} {sc : Scp} {a b c : Expr} {fa fb fc : EF} {es : List Expr} {ga : AF} {pos : Pos}
theorem tru_own {X : Cx} (gd : Gd W N sc X) {f : FSem} {fa' : Addr} {fd : FuncData} {ps : List Str} {C : Addr} (hm : Meth W.K C "__bool__" fa') (hb : Binds W.K fd ps []) (ok : FnOk W.P W.w W.K W.mg W.base CX0 W.k fa' fd ps (spG W f)) :
    TruR X (fun x H Q => ∃ p dx fs, x = .ref p ∧ H p = some (.ins C dx fs) ∧ spG W f [.ref p] H (fun v H' => ∃ b, v = .bl b ∧ Q b H') E0) := by
  intro pins s σ H x v Q I rx h
  obtain ⟨p, dx, fs, rfl, hp, q⟩ := h
  obtain rfl : v = Value.ref p := rx
  obtain ⟨m, hF⟩ := I.fr
  obtain ⟨mA, O, r, wi, _, ho⟩ := ins_get I.hok hp
  obtain ⟨od, J, _⟩ := O.look
  refine PySem.W.truthy_K hF I.ok.mod.kin J (by rw [gd.K]; exact hm.at_) (by rw [gd.K]; exact hm.fn) ?_
  refine wpAny_mono (run_fn (us := [.ref p]) (vs := [.ref p]) (gd.fnok ok) gd.hr (by rw [gd.K]; exact hb) .nil pass0 I (.cons rfl .nil) q) (fun w s' z => ?_) fun _ _ x => x
  obtain ⟨z', H', I', rz, b, rfl, qz⟩ := z
  cases rz
  exact ⟨H', I', qz⟩
theorem tru_plain {X : Cx} {C : Addr} (h1 : PySem.W.findIn X.K (.ref C) "__bool__" = some none) (h2 : PySem.W.findIn X.K (.ref C) "__len__" = some none) :
    TruR X (fun x H Q => ∃ p dx fs, x = .ref p ∧ H p = some (.ins C dx fs) ∧ Q true H) := by
  intro pins s σ H x v Q I rx h
  obtain ⟨p, dx, fs, rfl, hp, q⟩ := h
  obtain rfl : v = Value.ref p := rx
  obtain ⟨m, hF⟩ := I.fr
  obtain ⟨mA, O, r, wi, _, ho⟩ := ins_get I.hok hp
  obtain ⟨od, J, _⟩ := O.look
  exact PySem.W.truthy_K0 hF I.ok.mod.kin J h1 h2 ⟨H, I, q⟩
theorem truV_rep {K : PySem.W.Frag} {cA : Str → Option Addr} {F H : Hp} {v : V} {d : D} {b : Bool} (hs : SubH F H) (h : VRep K cA F H v d) (e : truD d = some b) : TruV K v H b := by
  cases d with
  | non => cases e; cases h with | rep r => cases r; rfl
  | bl i => cases e; cases h with | rep r => cases r; rfl
  | int i => cases e; cases h with | rep r => cases r; rfl
  | str i =>
    have e : (if i.length ≤ sizeLine then some ((i.length : Int) != 0) else none) = some b := e
    split at e
    · rename_i hz
      cases e; cases h with | rep r => cases r; exact ⟨hz, rfl⟩
    · cases e
  | tup ds =>
    cases e
    obtain ⟨p, vs, rfl, q, r⟩ := h.tup_ hs
    refine .inr (.inl ⟨vs, q, ?_⟩)
    have := r.length
    cases ds <;> cases vs <;> first | rfl | simp at this
  | lst ds =>
    cases e
    obtain ⟨p, vs, rfl, q, r⟩ := h.lst_ hs
    refine .inl ⟨vs, .of q, ?_⟩
    have := r.length
    cases ds <;> cases vs <;> first | rfl | simp at this
  | scr ns =>
    cases e
    obtain ⟨p, rfl, q⟩ := h.scr_ hs
    refine .inl ⟨_, q, ?_⟩
    cases ns <;> rfl
  | _ => cases e
theorem tru_ok {X : Cx} (gd : Gd W N sc X) {mt : Str → Option FSem} {pt : Str → Bool} (hmt : ∀ c f, mt c = some f → MethHas W c "__bool__" f) (hpt : PlainTru W pt) {F H : Hp} {κ : List Addr} {M M' : Ms} {s : S} {v : V} {b : Bool} {Q : Bool → Hp → Prop}
    (t : Stt W.K W.cA F H κ M) (r : SRep W.K W.cA F κ v s) (e : truS mt pt s M = some (b, M')) (k : ∀ F' κ' H', Ext F κ F' κ' → Stt W.K W.cA F' H' κ' M' → Q b H') : tStar X v H Q := by
  unfold truS at e
  split at e
  · rename_i c gs e1
    obtain ⟨p, C, dx, fs, rfl, hc, hp, en, rs, na⟩ := (t.view r e1).obj_ t.sub
    split at e
    · rename_i f e2
      split at e
      rotate_left
      · cases e
      rename_i b' M2 e3
      simp only [Option.some.injEq, Prod.mk.injEq] at e
      obtain ⟨rfl, rfl⟩ := e
      obtain ⟨fa', fd, ps, hm, hb, ok⟩ := hmt c f e2 C hc
      refine ⟨_, tru_own gd hm hb ok, p, dx, fs, rfl, hp, F, κ, M, [s], _, _, .cons r .nil, e3, t, fun F' κ' H' v x1 t1 r1 => ?_⟩
      have r1 : Rep W.K W.cA F' v (.bl b') := r1
      cases r1
      exact ⟨b', rfl, k F' κ' H' x1 t1⟩
    · rename_i e2
      split at e
      · rename_i e3
        simp only [Option.some.injEq, Prod.mk.injEq] at e
        obtain ⟨rfl, rfl⟩ := e
        obtain ⟨h1, h2⟩ := hpt c C e3 hc
        exact ⟨_, tru_plain (by rw [gd.K]; exact h1) (by rw [gd.K]; exact h2), p, dx, fs, rfl, hp, k F κ H (.refl _ _) t⟩
      · cases e
  · rename_i d _ e1
    split at e
    · rename_i b' e2
      simp only [Option.some.injEq, Prod.mk.injEq] at e
      obtain ⟨rfl, rfl⟩ := e
      exact ⟨_, L2.tru_ok, b', by rw [gd.K]; exact truV_rep t.sub (t.view r e1) e2, k F κ H (.refl _ _) t⟩
    · cases e
  · cases e
/-- no test of its own form -/
def plainTest : Expr → Bool
  | .BoolOp _ _ _ => false
  | .UnaryOp _ _ _ => false
  | .Compare _ _ _ _ => false
  | .IfExp _ _ _ _ => false
  | .Constant _ _ _ => false
  | .NamedExpr _ _ _ => false
  | .Name _ _ => true
  | .Call _ _ _ _ => true
  | .Attribute _ _ _ => true
  | .Subscript _ _ _ => true
  | .BinOp _ _ _ _ => true
  | .List _ _ => true
  | _ => false
theorem plain_true {e : Expr} (h : plainTest e = true) (env : Env) (whole : Sem Value) : isTrue e env whole = (do let v ← whole; standAt e.pos; holding [v] (truthy v)) := by
  cases e <;> first | rfl | cases h
theorem dt_tru {mt : Str → Option FSem} {pt : Str → Bool} (hmt : ∀ c f, mt c = some f → MethHas W c "__bool__" f) (hpt : PlainTru W pt) (hp : plainTest a = true) (ha : DE W N sc a fa) : DT W N sc a (eTru mt pt fa) := by
  intro X gd
  refine PT.imp (pt_truthR (ha X gd) (TruR.star X) (plain_true hp X.env)) fun σ H Q h => ?_
  obtain ⟨env, M, b, M', F, κ, e, t, er, k⟩ := h
  unfold eTru at e
  split at e
  rotate_left
  · cases e
  rename_i s M1 e1
  exact ⟨env, M, s, M1, F, κ, e1, t, er, fun F1 κ1 H1 v x1 t1 r => tru_ok gd hmt hpt t1 r e fun F2 κ2 H2 x2 t2 => k F2 κ2 H2 (x1.trans x2) t2⟩
/-- not e, as a value -/
def eNotT (mt : Str → Option FSem) (pt : Str → Bool) (fa : EF) : EF := eOf (tNot_ (eTru mt pt fa))
theorem de_notT {mt : Str → Option FSem} {pt : Str → Bool} (hmt : ∀ c f, mt c = some f → MethHas W c "__bool__" f) (hpt : PlainTru W pt) (ha : DE W N sc a fa) : DE W N sc (.UnaryOp .Not a pos) (eNotT mt pt fa) := by
  intro X gd
  refine ⟨fun pins s σ H Q I h => ?_⟩
  obtain ⟨env, M, s', M', F, κ, e, t, er, k⟩ := h
  unfold eNotT eOf tNot_ at e
  cases e1 : eTru mt pt fa env M with
  | none => simp [e1] at e
  | some p =>
    obtain ⟨b, M1⟩ := p
    simp only [e1, Option.some.injEq, Prod.mk.injEq] at e
    obtain ⟨rfl, rfl⟩ := e
    unfold eTru at e1
    split at e1
    rotate_left
    · cases e1
    rename_i s1 M2 e2
    refine PyProof.Rows.UnaryOp_ (thn ((ha X gd).run pins s σ H (fun v H1 => tStar X v H1 fun c H2 => Q (.bl (!c)) H2) I ⟨env, M, s1, M2, F, κ, e2, t, er, fun F1 κ1 H1 v x1 t1 r => tru_ok gd hmt hpt t1 r e1 fun F2 κ2 H2 x2 t2 => ?_⟩) fun u s2 ⟨x, H1, I1, r1, q1⟩ => ?_)
    · exact k F2 κ2 H2 _ (x1.trans x2) t2 (show Rep W.K W.cA F2 (.bl (!b)) (.bl (!b)) from .bl _)
    · exact PyProof.Rows.not_of (thn (TruR.star X pins s2 σ H1 x u _ I1 r1 q1) fun c s3 ⟨H2, I2, q2⟩ => ⟨.bl (!c), H2, I2, rfl, q2⟩)
/-! ### == of own classes -/
def NfOk (W : Wd) (nf : Str → Str → Bool) : Prop := ∀ c c' C C', nf c c' = true → W.cA c = some C → W.cA c' = some C' → PySem.W.notFirst W.K C (.ref C') = true
theorem eq_own {X : Cx} (gd : Gd W N sc X) {f : FSem} {fa' : Addr} {fd : FuncData} {ps : List Str} {C C' : Addr} (hm : Meth W.K C "__eq__" fa') (hb : Binds W.K fd ps []) (ok : FnOk W.P W.w W.K W.mg W.base CX0 W.k fa' fd ps (spG W f)) (hn : PySem.W.notFirst W.K C (.ref C') = true) :
    OpR X (compareOp .Eq) (fun x y H Q => ∃ p dx fs q dy gs, x = .ref p ∧ H p = some (.ins C dx fs) ∧ y = .ref q ∧ H q = some (.ins C' dy gs) ∧ spG W f [.ref p, .ref q] H (fun v H' => ∃ b, v = .bl b ∧ Q (.bl b) H') E0) := by
  intro pins s σ H x y v u Q I rx ry h
  obtain ⟨p, dx, fs, q, dy, gs, rfl, hp, rfl, hq, z⟩ := h
  obtain rfl : v = Value.ref p := rx
  obtain rfl : u = Value.ref q := ry
  obtain ⟨m, hF⟩ := I.fr
  obtain ⟨mA, O, r, wi, _, ho⟩ := ins_get I.hok hp
  obtain ⟨od, J, _⟩ := O.look
  obtain ⟨mA', O', r', wi', _, ho'⟩ := ins_get I.hok hq
  obtain ⟨od', J', _⟩ := O'.look
  show wpAny _ _ (richCompare .Eq _ _) _ _ _
  refine PySem.W.cmp_K (op := .Eq) (tb := .ref C') gd.hr.units0 hF I.ok.mod.kin J J'.type (by rw [gd.K]; exact hn) (by rw [gd.K]; exact hm.at_) (by rw [gd.K]; exact hm.fn) ?_
  refine wpAny_mono (run_fn (us := [.ref p, .ref q]) (vs := [.ref p, .ref q]) (gd.fnok ok) gd.hr (by rw [gd.K]; exact hb) .nil pass0 I (.cons rfl (.cons rfl .nil)) z) (fun w s' z => ?_) fun _ _ x => x
  obtain ⟨z', H', I', rz, b, rfl, qz⟩ := z
  cases rz
  exact ⟨.bl b, H', I', rfl, qz⟩
/-- x == y; both instances: by __eq__ of the first one's class -/
def eqSt (mt : Str → Option FSem) (nf : Str → Str → Bool) (a b : S) (M : Ms) : Option (S × Ms) := match view M a with
  | some x => match view M b with
    | some y => match x, y with
      | .obj c _, .obj c' _ => if nf c c' then match mt c with
          | some f => match f [a, b] M with
            | some (.d (.bl r), M2) => some (.d (.bl r), M2)
            | _ => none
          | none => none
        else none
      | x, y => match gEq x y with
        | some r => some (.d r, M)
        | none => none
    | none => none
  | none => none
def eEq (mt : Str → Option FSem) (nf : Str → Str → Bool) (fa fb : EF) : EF := fun env M => match fa env M with
  | some (a, M1) => match fb env M1 with
    | some (b, M2) => eqSt mt nf a b M2
    | none => none
  | none => none
theorem eq_ok {X : Cx} (gd : Gd W N sc X) {mt : Str → Option FSem} {nf : Str → Str → Bool} (hmt : ∀ c f, mt c = some f → MethHas W c "__eq__" f) (hnf : NfOk W nf) {F H : Hp} {κ : List Addr} {M M' : Ms} {a b s : S} {va vb : V} {Q : VK}
    (t : Stt W.K W.cA F H κ M) (ra : SRep W.K W.cA F κ va a) (rb : SRep W.K W.cA F κ vb b) (e : eqSt mt nf a b M = some (s, M')) (k : ∀ F' κ' H' v, Ext F κ F' κ' → Stt W.K W.cA F' H' κ' M' → SRep W.K W.cA F' κ' v s → Q v H') : rStar X (compareOp .Eq) va vb H Q := by
  unfold eqSt at e
  split at e
  rotate_left
  · cases e
  rename_i x e1
  split at e
  rotate_left
  · cases e
  rename_i y e2
  split at e
  · rename_i c gs c' gs'
    split at e
    rotate_left
    · cases e
    rename_i e3
    split at e
    rotate_left
    · cases e
    rename_i f e4
    split at e
    rotate_left
    · cases e
    rename_i r M2 e5
    simp only [Option.some.injEq, Prod.mk.injEq] at e
    obtain ⟨rfl, rfl⟩ := e
    obtain ⟨p, C, dx, fs, rfl, hc, hp, en, rs, na⟩ := (t.view ra e1).obj_ t.sub
    obtain ⟨q, C', dx', fs', rfl, hc', hp', en', rs', na'⟩ := (t.view rb e2).obj_ t.sub
    obtain ⟨fa', fd, ps, hm, hb, ok⟩ := hmt c f e4 C hc
    refine ⟨_, eq_own gd hm hb ok (hnf c c' C C' e3 hc hc'), p, dx, fs, q, dx', fs', rfl, hp, rfl, hp', F, κ, M, [a, b], _, _, .cons ra (.cons rb .nil), e5, t, fun F' κ' H' v x1 t1 r1 => ?_⟩
    have r1 : Rep W.K W.cA F' v (.bl r) := r1
    cases r1
    exact ⟨r, rfl, k F' κ' H' _ x1 t1 (show Rep W.K W.cA F' (.bl r) (.bl r) from .bl _)⟩
  · split at e
    rotate_left
    · cases e
    rename_i r e3
    simp only [Option.some.injEq, Prod.mk.injEq] at e
    obtain ⟨rfl, rfl⟩ := e
    exact ops_eq W N sc X gd F H va vb x y r t.sub (t.view ra e1) (t.view rb e2) e3 Q fun v F3 H3 n rv => k F3 κ H3 v (.sub' n.fr) (t.new n) rv
theorem tEv_eq {X : Cx} (gd : Gd W N sc X) {mt : Str → Option FSem} {nf : Str → Str → Bool} (hmt : ∀ c f, mt c = some f → MethHas W c "__eq__" f) (hnf : NfOk W nf) : ∀ σ H Q, tEv W (eEq mt nf fa fb) σ H Q → tOp (rStar X (compareOp .Eq)) (tEv W fa) (tEv W fb) σ H Q := by
  intro σ H Q h
  obtain ⟨env, M, s, M', F, κ, e, t, er, k⟩ := h
  unfold eEq at e
  split at e
  rotate_left
  · cases e
  rename_i sa M1 e1
  split at e
  rotate_left
  · cases e
  rename_i sb M2 e2
  refine ⟨env, M, sa, M1, F, κ, e1, t, er, fun F1 κ1 H1 va x1 t1 ra => ?_⟩
  refine ⟨env, M1, sb, M2, F1, κ1, e2, t1, er.ext x1, fun F2 κ2 H2 vb x2 t2 rb => ?_⟩
  exact eq_ok gd hmt hnf t2 (ra.ext x2) rb e fun F3 κ3 H3 v x3 t3 r => k F3 κ3 H3 v ((x1.trans x2).trans x3) t3 r
theorem de_eq {mt : Str → Option FSem} {nf : Str → Str → Bool} (hmt : ∀ c f, mt c = some f → MethHas W c "__eq__" f) (hnf : NfOk W nf) (hm : behindInMarks .Eq b = false) (ha : DE W N sc a fa) (hb : DE W N sc b fb) : DE W N sc (.Compare a [.Eq] [b] pos) (eEq mt nf fa fb) :=
  fun X gd => PE.imp (pe_cmpR (OpR.star X _) (ha X gd) (hb X gd) hm) (tEv_eq gd hmt hnf)
theorem dt_eq {mt : Str → Option FSem} {nf : Str → Str → Bool} (hmt : ∀ c f, mt c = some f → MethHas W c "__eq__" f) (hnf : NfOk W nf) (hm : behindInMarks .Eq b = false) (ha : DE W N sc a fa) (hb : DE W N sc b fb) : DT W N sc (.Compare a [.Eq] [b] pos) (eTest (eEq mt nf fa fb)) := by
  intro X gd
  exact PT.imp (pt_cmpR (OpR.star X _) (ha X gd) (hb X gd) hm) fun σ H Q h => tEv_eq gd hmt hnf σ H _ (tTv_test σ H Q h)
end
end G
/-! isinstance; chains; what fails; attributes changed in place. -/
namespace G
open PySem L2
/-- a class -/
inductive Ty where
  | bt (n : String) | cl (c : Str)
  deriving DecidableEq, Inhabited
def TyV (W : Wd) : Ty → V → Value → Prop
  | .bt n, v, u => v = .ty n ∧ u = .type n
  | .cl c, v, u => ∃ C, W.cA c = some C ∧ v = .ref C ∧ u = .ref C
theorem TyV.clsV {W : Wd} {t : Ty} {v : V} {u : Value} (h : TyV W t v u) : ClsV v u := by
  cases t with
  | bt n => obtain ⟨rfl, rfl⟩ := h; exact .ty n
  | cl c => obtain ⟨C, _, rfl, rfl⟩ := h; exact .own C
def tyD : D → Ty
  | .non => .bt "NoneType"
  | .bl _ => .bt "bool"
  | .int _ => .bt "int"
  | .str _ => .bt "str"
  | .tup _ => .bt "tuple"
  | .lst _ => .bt "list"
  | .scr _ => .bt "list"
  | .dct _ => .bt "dict"
  | .obj c _ => .cl c
/-- what isinstance says of classes -/
structure KitOk (W : Wd) (kit : Ty → Ty → Option Bool) (ic : Str → Bool) : Prop where
  one : ∀ t t' b v u v' u', kit t t' = some b → TyV W t v u → TyV W t' v' u' → PySem.W.kitOne W.K u u' = some b
  ha : ∀ c C, ic c = true → W.cA c = some C → PySem.W.findIn W.K (.ref C) "__class__" = some (some (.builtin "object.__class__"))
  hn : ∀ c C, ic c = true → W.cA c = some C → PySem.W.specialIn W.K (.builtin "object.__class__") "__get__" = some (some (.builtin "getset_descriptor.__get__"))
  ht : ∀ c C, ic c = true → W.cA c = some C → PySem.W.takesIn W.K (.builtin "object.__class__") = some true
  hm : ∀ c C, ic c = true → W.cA c = some C → PySem.W.mroIn W.K C (.type "object") = some true
def kitAll (kit : Ty → Ty → Option Bool) (t : Ty) : List Ty → Option Bool
  | [] => some false
  | c :: r => match kit t c with
    | some true => some true
    | some false => kitAll kit t r
    | none => none
def icD (ic : Str → Bool) : D → Bool
  | .obj c _ => ic c
  | _ => true
def isiD (kit : Ty → Ty → Option Bool) (ic : Str → Bool) (d : D) (ts : List Ty) : Option Bool := if icD ic d then kitAll kit (tyD d) ts else none
def eIsi (kit : Ty → Ty → Option Bool) (ic : Str → Bool) (ts : List Ty) (fa : EF) : EF := fun env M => match fa env M with
  | some (s, M1) => match view M1 s with
    | some d => match isiD kit ic d ts with
      | some b => some (.d (.bl b), M1)
      | none => none
    | none => none
  | none => none
theorem tyX_rep {W : Wd} {kit : Ty → Ty → Option Bool} {ic : Str → Bool} (ok : KitOk W kit ic) {F H : Hp} {v : V} {d : D} (hs : SubH F H) (h : VRep W.K W.cA F H v d) (hi : icD ic d = true) : ∃ w t, TyX W.K H v t ∧ TyV W (tyD d) w t := by
  have hL : ∀ {p : Addr} {vs : List V}, SqL W.K H p vs → TyX W.K H (.ref p) (.type "list") := fun q => by
    rcases q with (q | ⟨o, q⟩) | ⟨o, its, n, q, hc, _⟩
    · exact .base (.lst q)
    · exact .base (.frz q)
    · exact .kList q hc
  have hT : ∀ {p : Addr} {vs : List V}, SqT W.K H p vs → TyX W.K H (.ref p) (.type "tuple") := fun q => by
    rcases q with (q | ⟨o, q⟩) | ⟨o, its, n, q, hc, _⟩
    · exact .base (.tup q)
    · exact .fTuple q
    · exact .kTuple q hc
  cases d with
  | non => cases h with | rep r => cases r; exact ⟨_, _, .base .non, rfl, rfl⟩
  | bl i => cases h with | rep r => cases r; exact ⟨_, _, .base (.bl i), rfl, rfl⟩
  | int i => cases h with | rep r => cases r; exact ⟨_, _, .base (.int i), rfl, rfl⟩
  | str i => cases h with | rep r => cases r; exact ⟨_, _, .base (.str i), rfl, rfl⟩
  | tup ds => obtain ⟨p, vs, rfl, q, r⟩ := h.tup_ hs; exact ⟨_, _, hT q, rfl, rfl⟩
  | lst ds => obtain ⟨p, vs, rfl, q, r⟩ := h.lst_ hs; exact ⟨_, _, hL (.of q), rfl, rfl⟩
  | scr ds => obtain ⟨p, rfl, q⟩ := h.scr_ hs; exact ⟨_, _, hL q, rfl, rfl⟩
  | dct kds =>
    obtain ⟨p, kvs, rfl, q, r⟩ := h.dct0 hs
    rcases q with q | ⟨o, q⟩
    · exact ⟨_, _, .base (.dK q), rfl, rfl⟩
    · exact ⟨_, _, .fDict q, rfl, rfl⟩
  | obj c gs =>
    obtain ⟨p, C, dx, fs, rfl, hc, hp, _⟩ := h.obj_ hs
    exact ⟨.ref C, .ref C, .base (.ins hp (W.cls c C hc) (ok.ha c C hi hc) (ok.hn c C hi hc) (ok.ht c C hi hc) (ok.hm c C hi hc)), C, hc, rfl, rfl⟩
theorem kitAll_ok {W : Wd} {kit : Ty → Ty → Option Bool} {ic : Str → Bool} (ok : KitOk W kit ic) {t : Ty} {v : V} {u : Value} (h : TyV W t v u) : ∀ {ts : List Ty} {vs : List V} {us : List Value} {b : Bool}, (∀ (i : Nat) t', ts[i]? = some t' → ∃ v' u', vs[i]? = some v' ∧ us[i]? = some u' ∧ TyV W t' v' u') → us.length = ts.length → kitAll kit t ts = some b → PySem.W.kitAny W.K u us = some b
  | [], vs, [], b, _, _, e => e
  | [], vs, _ :: _, b, _, hl, e => by simp at hl
  | t' :: ts, vs, [], b, _, hl, e => by simp at hl
  | t' :: ts, vs, u' :: us, b, ha, hl, e => by
    obtain ⟨v1, u1, h1, h2, h3⟩ := ha 0 t' rfl
    simp only [List.getElem?_cons_zero, Option.some.injEq] at h2
    subst h2
    unfold kitAll at e
    unfold PySem.W.kitAny
    cases e1 : kit t t' with
    | none => simp [e1] at e
    | some b1 =>
      rw [ok.one t t' b1 v u v1 u' e1 h h3]
      cases b1 with
      | true => simp only [e1] at e; exact e
      | false =>
        simp only [e1] at e
        exact kitAll_ok ok h (ts := ts) (vs := vs.drop 1) (us := us) (fun i t2 hi => by
          obtain ⟨a1, a2, a3, a4, a5⟩ := ha (i + 1) t2 (by simpa using hi)
          exact ⟨a1, a2, by rw [List.getElem?_drop, Nat.add_comm]; exact a3, by simpa using a4, a5⟩) (by simpa using hl) e
/-- the names of classes, as they stand in a text -/
def TyName (W : Wd) (sc : Scp) (e : Expr) (t : Ty) : Prop := ∃ x p, e = .Name x p ∧ sc.names.lookup x = some .globalImplicit ∧ x ≠ "__name__" ∧ (x == ("__debug__" : Str)) = false ∧
  match t with
  | .bt n => W.mg x = none ∧ bootBuiltins x = some (.type n)
  | .cl c => ∃ C, W.cA c = some C ∧ W.mg x = some (.ref C)
section
variable {W : Wd} {N : List Str} {sc : Scp} {a b c : Expr} {fa fb fc : EF} {es : List Expr} {ga : AF} {pos : Pos}
theorem ty_pe {e : Expr} {t : Ty} (h : TyName W sc e t) {X : Cx} (gd : Gd W N sc X) : ∃ v u, TyV W t v u ∧ PE X e (tC v) ∧ notStar e = true := by
  obtain ⟨x, p, rfl, hg, hn, hd, h⟩ := h
  cases t with
  | bt n => exact ⟨.ty n, .type n, ⟨rfl, rfl⟩, pe_bltn (gd.gl hg) (by rw [gd.mg]; exact h.1) h.2 rfl hn hd, rfl⟩
  | cl c =>
    obtain ⟨C, hC, hm⟩ := h
    exact ⟨.ref C, .ref C, ⟨C, hC, rfl, rfl⟩, pe_glob (gd.gl hg) (by rw [gd.mg]; exact hm) rfl hd, rfl⟩
inductive TyNames (W : Wd) (sc : Scp) : List Expr → List Ty → Prop
  | nil : TyNames W sc [] []
  | cons {e : Expr} {t : Ty} {es : List Expr} {ts : List Ty} : TyName W sc e t → TyNames W sc es ts → TyNames W sc (e :: es) (t :: ts)
theorem PA.imp' {X : Cx} {e : List Expr} {t t' : TA} (h : PA X e t) (i : ∀ σ H Q, t' σ H Q → t σ H Q) : PA X e t' := ⟨fun pos pins s σ H Q I hw => h.run pos pins s σ H Q I (i σ H Q hw)⟩
theorem ty_pa {X : Cx} (gd : Gd W N sc X) : ∀ {es : List Expr} {ts : List Ty}, TyNames W sc es ts → ∃ vs us, Paired ClsV vs us ∧ us.length = ts.length ∧ (∀ (i : Nat) t, ts[i]? = some t → ∃ v' u', vs[i]? = some v' ∧ us[i]? = some u' ∧ TyV W t v' u') ∧ vs.length = ts.length ∧ PA X es (fun σ H Q => Q vs H)
  | [], _, .nil => ⟨[], [], .nil, rfl, fun i t h => by simp at h, rfl, pa_nil⟩
  | e :: es, _, .cons h r => by
    obtain ⟨vs, us, h1, h2, h3, h4, h5⟩ := ty_pa gd r
    obtain ⟨v, u, k1, k2, k3⟩ := ty_pe h gd
    refine ⟨v :: vs, u :: us, .cons k1.clsV h1, by simp [h2], fun i t hi => ?_, by simp [h4], PA.imp' (pa_cons k2 h5 (star_cons k3 _ _)) fun σ H Q q => q⟩
    cases i with
    | zero => simp at hi; subst hi; exact ⟨v, u, rfl, rfl, k1⟩
    | succ i => exact h3 i t (by simpa using hi)
theorem eIsi_some {kit : Ty → Ty → Option Bool} {ic : Str → Bool} {ts : List Ty} {env : Ev} {M M' : Ms} {s : S} (h : eIsi kit ic ts fa env M = some (s, M')) : ∃ s1 d b, fa env M = some (s1, M') ∧ view M' s1 = some d ∧ icD ic d = true ∧ kitAll kit (tyD d) ts = some b ∧ s = .d (.bl b) := by
  unfold eIsi at h
  split at h
  rotate_left
  · cases h
  rename_i s1 M1 e1
  split at h
  rotate_left
  · cases h
  rename_i d e2
  split at h
  rotate_left
  · cases h
  rename_i b e3
  simp only [Option.some.injEq, Prod.mk.injEq] at h
  obtain ⟨rfl, rfl⟩ := h
  unfold isiD at e3
  split at e3
  · rename_i hi; exact ⟨s1, d, b, e1, e2, hi, e3, rfl⟩
  · cases e3
theorem de_isi {kit : Ty → Ty → Option Bool} {ic : Str → Bool} (ok : KitOk W kit ic) {t : Ty} {p : Pos} (hf : Free W sc "isinstance") (hst : notStar a = true) (ha : DE W N sc a fa) (hb : TyName W sc b t) :
    DE W N sc (.Call (.Name "isinstance" p) [a, b] [] pos) (eIsi kit ic [t] fa) := by
  intro X gd
  obtain ⟨v, u, k1, k2, k3⟩ := ty_pe hb gd
  refine PE.imp (pe_callB call_isi (gd.gl hf.1) (by rw [gd.mg]; exact hf.2) PyProof.Rows.boot_isinstance (pa_cons (ha X gd) (pa_cons k2 pa_nil (star_cons k3 _ _)) (star_cons hst _ _)) (by decide) (by decide) (star_cons hst _ _) (plain_args (by simp [k3]) _ _)) fun σ H Q h => ?_
  obtain ⟨env, M, s, M', F, κ, e, t0, er, k⟩ := h
  obtain ⟨s1, d, r, e1, e2, hi, e3, rfl⟩ := eIsi_some e
  refine ⟨env, M, s1, M', F, κ, e1, t0, er, fun F1 κ1 H1 w x1 t1 rw' => ?_⟩
  obtain ⟨w2, tt, h1, h2⟩ := tyX_rep ok t1.sub (t1.view rw' e2) hi
  refine ⟨w, v, tt, u, r, rfl, k1.clsV, by rw [gd.K]; exact h1, ?_, k F1 κ1 H1 _ x1 t1 (show Rep W.K W.cA F1 (.bl r) (.bl r) from .bl _)⟩
  rw [gd.K]
  unfold kitAll at e3
  cases e4 : kit (tyD d) t with
  | none => simp [e4] at e3
  | some b1 =>
    rw [ok.one _ _ b1 w2 tt v u e4 h2 k1]
    cases b1 <;> (simp only [e4] at e3; exact e3)
theorem de_isiT {kit : Ty → Ty → Option Bool} {ic : Str → Bool} (ok : KitOk W kit ic) {ts : List Ty} {j : Nat} {p tp : Pos} (hf : Free W sc "isinstance") (hst : notStar a = true) (ha : DE W N sc a fa) (hb : TyNames W sc es ts) (hl : ts.length < 100) :
    DE W N sc (.Call (.Name "isinstance" p) [a, .Tuple es j tp] [] pos) (eIsi kit ic ts fa) := by
  intro X gd
  obtain ⟨vs, us, k1, k2, k3, k4, k5⟩ := ty_pa gd hb
  refine PE.imp (pe_callB call_isiT (gd.gl hf.1) (by rw [gd.mg]; exact hf.2) PyProof.Rows.boot_isinstance (pa_cons (ha X gd) (pa_cons (pe_tup k5) pa_nil (star_cons rfl _ _)) (star_cons hst _ _)) (by decide) (by decide) (star_cons hst _ _) (plain_args (by rfl) _ _)) fun σ H Q h => ?_
  obtain ⟨env, M, s, M', F, κ, e, t0, er, k⟩ := h
  obtain ⟨s1, d, r, e1, e2, hi, e3, rfl⟩ := eIsi_some e
  refine ⟨env, M, s1, M', F, κ, e1, t0, er, fun F1 κ1 H1 w x1 t1 rw' => ?_⟩
  refine ⟨by rw [k4, sizeLine_eq]; omega, fun q hq => ?_⟩
  have n : New F1 H1 F1 (upd H1 q (.tup vs)) := New.oneH t1.sub hq
  have t2 := t1.new n
  obtain ⟨w2, tt, h1, h2⟩ := tyX_rep ok t2.sub (t2.view rw' e2) hi
  exact ⟨w, q, vs, tt, us, r, rfl, upd_same, k1, by rw [gd.K]; exact h1, by rw [gd.K]; exact kitAll_ok ok h2 k3 k2 e3, k F1 κ1 _ _ x1 t2 (show Rep W.K W.cA F1 (.bl r) (.bl r) from .bl _)⟩
/-! ### a <= b <= c -/
def eChain (g g' : D → D → Option D) (fa fb fc : EF) : EF := fun env M => match fa env M with
  | some (a, M1) => match fb env M1 with
    | some (b, M2) => match view M2 a with
      | some x => match view M2 b with
        | some y => match g x y with
          | some (.bl true) => match fc env M2 with
            | some (c, M3) => match view M3 b with
              | some y' => match view M3 c with
                | some z => match g' y' z with
                  | some r => some (.d r, M3)
                  | none => none
                | none => none
              | none => none
            | none => none
          | some (.bl false) => some (.d (.bl false), M2)
          | _ => none
        | none => none
      | none => none
    | none => none
  | none => none
theorem tEv_chain {X : Cx} (gd : Gd W N sc X) {f f' : Value → Value → Sem Value} {g g' : D → D → Option D} (ho : OpS f g) (ho' : OpS f' g') : ∀ σ H Q, tEv W (eChain g g' fa fb fc) σ H Q → tChain (rStar X f) (rStar X f') (tEv W fa) (tEv W fb) (tEv W fc) σ H Q := by
  intro σ H Q h
  obtain ⟨env, M, s, M', F, κ, e, t, er, k⟩ := h
  unfold eChain at e
  split at e
  rotate_left
  · cases e
  rename_i sa M1 e1
  split at e
  rotate_left
  · cases e
  rename_i sb M2 e2
  split at e
  rotate_left
  · cases e
  rename_i x e3
  split at e
  rotate_left
  · cases e
  rename_i y e4
  refine ⟨env, M, sa, M1, F, κ, e1, t, er, fun F1 κ1 H1 va x1 t1 ra => ?_⟩
  refine ⟨env, M1, sb, M2, F1, κ1, e2, t1, er.ext x1, fun F2 κ2 H2 vb x2 t2 rb => ?_⟩
  split at e
  · rename_i e5
    split at e
    rotate_left
    · cases e
    rename_i sc' M3 e6
    split at e
    rotate_left
    · cases e
    rename_i y' e7
    split at e
    rotate_left
    · cases e
    rename_i z e8
    split at e
    rotate_left
    · cases e
    rename_i r e9
    simp only [Option.some.injEq, Prod.mk.injEq] at e
    obtain ⟨rfl, rfl⟩ := e
    refine ho W N sc X gd F2 H2 va vb x y _ t2.sub (t2.view (ra.ext x2) e3) (t2.view rb e4) e5 _ fun v F3 H3 n rv => ?_
    cases rv
    refine ⟨true, rfl, iteT ?_⟩
    have x3 : Ext F2 κ2 F3 κ2 := .sub' n.fr
    refine ⟨env, M2, sc', M3, F3, κ2, e6, t2.new n, (er.ext (x1.trans x2)).ext x3, fun F4 κ4 H4 vc x4 t4 rc => ?_⟩
    refine ho' W N sc X gd F4 H4 vb vc y' z _ t4.sub (t4.view ((rb.ext x3).ext x4) e7) (t4.view rc e8) e9 _ fun v F5 H5 n5 rv => ?_
    exact k F5 κ4 H5 v ((((x1.trans x2).trans x3).trans x4).trans (.sub' n5.fr)) (t4.new n5) rv
  · rename_i e5
    simp only [Option.some.injEq, Prod.mk.injEq] at e
    obtain ⟨rfl, rfl⟩ := e
    refine ho W N sc X gd F2 H2 va vb x y _ t2.sub (t2.view (ra.ext x2) e3) (t2.view rb e4) e5 _ fun v F3 H3 n rv => ?_
    cases rv
    refine ⟨false, rfl, iteF ?_⟩
    exact k F3 κ2 H3 _ ((x1.trans x2).trans (.sub' n.fr)) (t2.new n) (show Rep W.K W.cA F3 (.bl false) (.bl false) from .bl _)
  · cases e
theorem de_chain {op op' : CmpOp} {g g' : D → D → Option D} (ho : OpS (compareOp op) g) (ho' : OpS (compareOp op') g') (hm : lastMarks [op, op'] [b, c] = false) (ha : DE W N sc a fa) (hb : DE W N sc b fb) (hc : DE W N sc c fc) :
    DE W N sc (.Compare a [op, op'] [b, c] pos) (eChain g g' fa fb fc) := fun X gd => PE.imp (pe_chain (OpR.star X _) (OpR.star X _) (ha X gd) (hb X gd) (hc X gd) hm) (tEv_chain gd ho ho')
theorem dt_chain {op op' : CmpOp} {g g' : D → D → Option D} (ho : OpS (compareOp op) g) (ho' : OpS (compareOp op') g') (hm : lastMarks [op, op'] [b, c] = false) (ha : DE W N sc a fa) (hb : DE W N sc b fb) (hc : DE W N sc c fc) :
    DT W N sc (.Compare a [op, op'] [b, c] pos) (eTest (eChain g g' fa fb fc)) := fun X gd => PT.imp (pt_chain (OpR.star X _) (OpR.star X _) (ha X gd) (hb X gd) (hc X gd) hm) fun σ H Q h => tEv_chain gd ho ho' σ H _ (tTv_test σ H Q h)
end
end G
/-! Built-in functions on data. -/
namespace G
open PySem L2
def intsD : List D → Option (List Int)
  | [] => some []
  | .int i :: r => match intsD r with
    | some ns => some (i :: ns)
    | none => none
  | _ => none
def blsD : List D → Option (List Bool)
  | [] => some []
  | .bl i :: r => match blsD r with
    | some ns => some (i :: ns)
    | none => none
  | _ => none
def strsD : List D → Option (List Str)
  | [] => some []
  | .str i :: r => match strsD r with
    | some ns => some (i :: ns)
    | none => none
  | _ => none
theorem intsD_eq : ∀ {ds : List D} {ns : List Int}, intsD ds = some ns → ds = ns.map D.int
  | [], ns, h => by cases h; rfl
  | d :: r, ns, h => by
    cases d with
    | int i =>
      unfold intsD at h
      split at h
      · rename_i ns' e; cases h; rw [intsD_eq e]; rfl
      · cases h
    | _ => cases h
theorem blsD_eq : ∀ {ds : List D} {ns : List Bool}, blsD ds = some ns → ds = ns.map D.bl
  | [], ns, h => by cases h; rfl
  | d :: r, ns, h => by
    cases d with
    | bl i =>
      unfold blsD at h
      split at h
      · rename_i ns' e; cases h; rw [blsD_eq e]; rfl
      · cases h
    | _ => cases h
theorem strsD_eq : ∀ {ds : List D} {ns : List Str}, strsD ds = some ns → ds = ns.map D.str
  | [], ns, h => by cases h; rfl
  | d :: r, ns, h => by
    cases d with
    | str i =>
      unfold strsD at h
      split at h
      · rename_i ns' e; cases h; rw [strsD_eq e]; rfl
      · cases h
    | _ => cases h
@[simp] theorem intsD_map (ns : List Int) : intsD (ns.map D.int) = some ns := by
  induction ns with
  | nil => rfl
  | cons n ns ih => rw [List.map_cons]; unfold intsD; rw [ih]
@[simp] theorem blsD_map (ns : List Bool) : blsD (ns.map D.bl) = some ns := by
  induction ns with
  | nil => rfl
  | cons n ns ih => rw [List.map_cons]; unfold blsD; rw [ih]
@[simp] theorem strsD_map (ns : List Str) : strsD (ns.map D.str) = some ns := by
  induction ns with
  | nil => rfl
  | cons n ns ih => rw [List.map_cons]; unfold strsD; rw [ih]
theorem VReps.one {K : PySem.W.Frag} {cA : Str → Option Addr} {F H : Hp} {xs : List V} {d : D} (h : VReps K cA F H xs [d]) : ∃ x, xs = [x] ∧ VRep K cA F H x d := by
  cases h with
  | cons r t => cases t; exact ⟨_, rfl, r⟩
theorem VReps.two {K : PySem.W.Frag} {cA : Str → Option Addr} {F H : Hp} {xs : List V} {d e : D} (h : VReps K cA F H xs [d, e]) : ∃ x y, xs = [x, y] ∧ VRep K cA F H x d ∧ VRep K cA F H y e := by
  cases h with
  | cons r t =>
    obtain ⟨y, rfl, q⟩ := t.one
    exact ⟨_, _, rfl, r, q⟩
/-- a list's items, a tuple's -/
theorem VRep.seq {K : PySem.W.Frag} {cA : Str → Option Addr} {F H : Hp} {v : V} {d : D} {ds : List D} (hs : SubH F H) (h : VRep K cA F H v d) (e : itemsOf d = some ds) : ∃ p vs, v = .ref p ∧ (SqL K H p vs ∨ SqT K H p vs) ∧ Reps K cA F vs ds :=
  let ⟨p, vs, a, b, c⟩ := h.items hs e; ⟨p, vs, a, b.symm, c⟩
/-- a list's items -/
def lstOf : D → Option (List D)
  | .lst ds => some ds
  | .scr ns => some (ns.map D.int)
  | _ => none
theorem VRep.lstOf {K : PySem.W.Frag} {cA : Str → Option Addr} {F H : Hp} {v : V} {d : D} {ds : List D} (hs : SubH F H) (h : VRep K cA F H v d) (e : G.lstOf d = some ds) : ∃ p vs, v = .ref p ∧ SqL K H p vs ∧ Reps K cA F vs ds := by
  cases d with
  | lst xs => cases e; obtain ⟨p, vs, rfl, q, r⟩ := h.lst_ hs; exact ⟨p, vs, rfl, .of q, r⟩
  | scr xs => cases e; obtain ⟨p, rfl, q⟩ := h.scr_ hs; exact ⟨p, _, rfl, q, .ints⟩
  | _ => cases e
/-! ### len -/
def gLen : List D → Option D
  | [.str x] => if x.length ≤ sizeLine then some (.int x.length) else none
  | [.tup ds] => some (.int ds.length)
  | [.lst ds] => some (.int ds.length)
  | [.scr ds] => some (.int ds.length)
  | [.dct kds] => some (.int kds.length)
  | _ => none
theorem call_lenR {X : Cx} : CallR X (.builtin "len") (fun xs H Q => ∃ a kvs, xs = [V.ref a] ∧ Rd H a (.dK kvs) ∧ Q (.int kvs.length) H) := by
  intro pins s σ H xs us Q I r h
  obtain ⟨a, kvs, rfl, ha, q⟩ := h
  obtain ⟨u, rfl, ru⟩ := vals1 r
  cases ru
  exact d_len I ha fun t s' I' => ⟨.int kvs.length, H, I', ⟨t, rfl⟩, q⟩
theorem cs_len : CallS (.builtin "len") gLen := by
  intro W N sc X gd F H xs dxs r hs hx e Q k
  have kk : ∀ i : Int, r = .int i → Q (.int i) H := fun i e => k _ F H (.refl hs) (by rw [e]; exact .int i)
  unfold gLen at e
  split at e
  · rename_i x
    split at e
    · rename_i hz
      cases e
      obtain ⟨v, rfl, h⟩ := hx.one
      obtain rfl := h.str_
      exact ⟨_, call_len, _, _, rfl, (show LenV _ (.str x) H x.length from ⟨hz, rfl⟩), kk _ rfl⟩
    · cases e
  · rename_i ds
    cases e
    obtain ⟨v, rfl, h⟩ := hx.one
    obtain ⟨p, vs, rfl, q, rs⟩ := h.tup_ hs
    exact ⟨_, call_len, _, _, rfl, (show LenV _ (.ref p) H vs.length from .inr ⟨vs, by rw [gd.K]; exact q, rfl⟩), by rw [rs.length]; exact kk _ rfl⟩
  · rename_i ds
    cases e
    obtain ⟨v, rfl, h⟩ := hx.one
    obtain ⟨p, vs, rfl, q, rs⟩ := h.lst_ hs
    exact ⟨_, call_len, _, _, rfl, (show LenV _ (.ref p) H vs.length from .inl ⟨vs, .of q, rfl⟩), by rw [rs.length]; exact kk _ rfl⟩
  · rename_i ds
    cases e
    obtain ⟨v, rfl, h⟩ := hx.one
    obtain ⟨p, rfl, q⟩ := h.scr_ hs
    exact ⟨_, call_len, _, _, rfl, (show LenV _ (.ref p) H _ from .inl ⟨_, by rw [gd.K]; exact q, rfl⟩), by rw [List.length_map]; exact kk _ rfl⟩
  · rename_i ds
    cases e
    obtain ⟨v, rfl, h⟩ := hx.one
    obtain ⟨p, kvs, rfl, q, en, rs⟩ := h.dct0 hs
    have : kvs.length = ds.length := by simpa using congrArg List.length en
    exact ⟨_, call_lenR, _, _, rfl, q, by rw [this]; exact kk _ rfl⟩
  · cases e
/-! ### sums, truths, greatest, least -/
def gOfInts (g : List Int → Option D) : List D → Option D
  | [x] => match lstOf x with
    | some ds => match intsD ds with
      | some ns => g ns
      | none => none
    | none => none
  | _ => none
theorem gOfInts_some {g : List Int → Option D} {xs : List D} {r : D} (h : gOfInts g xs = some r) : ∃ x ns, xs = [x] ∧ lstOf x = some (ns.map D.int) ∧ g ns = some r := by
  unfold gOfInts at h
  split at h
  rotate_left
  · cases h
  rename_i x
  split at h
  rotate_left
  · cases h
  rename_i ds e1
  split at h
  rotate_left
  · cases h
  rename_i ns e2
  exact ⟨x, ns, rfl, by rw [e1, intsD_eq e2], h⟩
def gSum : List D → Option D := gOfInts fun ns => some (.int ns.sum)
theorem cs_sum : CallS (.builtin "sum") gSum := by
  intro W N sc X gd F H xs dxs r hs hx e Q k
  obtain ⟨x, ns, rfl, e1, e2⟩ := gOfInts_some e
  cases e2
  obtain ⟨v, rfl, h⟩ := hx.one
  obtain ⟨p, vs, rfl, q, rs⟩ := h.lstOf hs e1
  rw [rs.intsV] at q
  exact ⟨_, cr_sum gd.calm, p, ns, rfl, by rw [gd.K]; exact q, k _ F H (.refl hs) (.int _)⟩
def maxI : List Int → Option Int
  | [] => none
  | x :: r => some (r.foldl max x)
def minI : List Int → Option Int
  | [] => none
  | x :: r => some (r.foldl min x)
theorem foldl_max_mem : ∀ (r : List Int) (x : Int), r.foldl max x = x ∨ r.foldl max x ∈ r
  | [], x => .inl rfl
  | y :: r, x => by
    rw [List.foldl_cons]
    rcases foldl_max_mem r (max x y) with h | h
    · rw [h]
      by_cases hxy : x ≤ y
      · rw [Int.max_eq_right hxy]; exact .inr (by simp)
      · rw [Int.max_eq_left (by omega)]; exact .inl rfl
    · exact .inr (List.mem_cons_of_mem _ h)
theorem foldl_max_le : ∀ (r : List Int) (x : Int), x ≤ r.foldl max x ∧ ∀ y ∈ r, y ≤ r.foldl max x
  | [], x => ⟨Int.le_refl _, by simp⟩
  | y :: r, x => by
    rw [List.foldl_cons]
    obtain ⟨h1, h2⟩ := foldl_max_le r (max x y)
    refine ⟨by omega, fun z hz => ?_⟩
    rcases List.mem_cons.mp hz with rfl | hz
    · omega
    · exact h2 z hz
theorem foldl_min_mem : ∀ (r : List Int) (x : Int), r.foldl min x = x ∨ r.foldl min x ∈ r
  | [], x => .inl rfl
  | y :: r, x => by
    rw [List.foldl_cons]
    rcases foldl_min_mem r (min x y) with h | h
    · rw [h]
      by_cases hxy : x ≤ y
      · rw [Int.min_eq_left hxy]; exact .inl rfl
      · rw [Int.min_eq_right (by omega)]; exact .inr (by simp)
    · exact .inr (List.mem_cons_of_mem _ h)
theorem foldl_min_le : ∀ (r : List Int) (x : Int), r.foldl min x ≤ x ∧ ∀ y ∈ r, r.foldl min x ≤ y
  | [], x => ⟨Int.le_refl _, by simp⟩
  | y :: r, x => by
    rw [List.foldl_cons]
    obtain ⟨h1, h2⟩ := foldl_min_le r (min x y)
    refine ⟨by omega, fun z hz => ?_⟩
    rcases List.mem_cons.mp hz with rfl | hz
    · omega
    · exact h2 z hz
theorem maxI_uniq {ns : List Int} {m m' : Int} (h : maxI ns = some m) (h1 : m' ∈ ns) (h2 : ∀ y ∈ ns, y ≤ m') : m' = m := by
  cases ns with
  | nil => cases h
  | cons x r =>
    have e : r.foldl max x = m := Option.some.inj h
    obtain ⟨k1, k2⟩ := foldl_max_le r x
    have k3 : m' ≤ m := by
      rw [← e]
      rcases List.mem_cons.mp h1 with rfl | h1
      · exact k1
      · exact k2 _ h1
    have k4 : m ≤ m' := by
      rcases foldl_max_mem r x with q | q
      · rw [← e, q]; exact h2 x (by simp)
      · rw [← e]; exact h2 _ (List.mem_cons_of_mem _ q)
    omega
theorem minI_uniq {ns : List Int} {m m' : Int} (h : minI ns = some m) (h1 : m' ∈ ns) (h2 : ∀ y ∈ ns, m' ≤ y) : m' = m := by
  cases ns with
  | nil => cases h
  | cons x r =>
    have e : r.foldl min x = m := Option.some.inj h
    obtain ⟨k1, k2⟩ := foldl_min_le r x
    have k3 : m ≤ m' := by
      rw [← e]
      rcases List.mem_cons.mp h1 with rfl | h1
      · exact k1
      · exact k2 _ h1
    have k4 : m' ≤ m := by
      rcases foldl_min_mem r x with q | q
      · rw [← e, q]; exact h2 x (by simp)
      · rw [← e]; exact h2 _ (List.mem_cons_of_mem _ q)
    omega
def gMax : List D → Option D
  | [.int i, .int j] => some (.int (if j > i then j else i))
  | xs => gOfInts (fun ns => (maxI ns).map D.int) xs
def gMin : List D → Option D
  | [.int i, .int j] => some (.int (if j < i then j else i))
  | xs => gOfInts (fun ns => (minI ns).map D.int) xs
theorem cs_max : CallS (.builtin "max") gMax := by
  intro W N sc X gd F H xs dxs r hs hx e Q k
  unfold gMax at e
  split at e
  · rename_i i j
    cases e
    obtain ⟨x, y, rfl, h1, h2⟩ := hx.two
    obtain rfl := h1.int_
    obtain rfl := h2.int_
    exact ⟨_, call_max2 gd.calm, i, j, rfl, k _ F H (.refl hs) (.int _)⟩
  · obtain ⟨x, ns, rfl, e1, e2⟩ := gOfInts_some e
    cases e3 : maxI ns with
    | none => simp [e3] at e2
    | some m =>
      simp only [e3, Option.map_some, Option.some.injEq] at e2
      subst e2
      obtain ⟨v, rfl, h⟩ := hx.one
      obtain ⟨p, vs, rfl, q, rs⟩ := h.lstOf hs e1
      rw [rs.intsV] at q
      refine ⟨_, cr_max gd.calm, p, ns, rfl, by rw [gd.K]; exact q, by cases ns with | nil => cases e3 | cons _ _ => simp, fun m' h1 h2 => ?_⟩
      rw [maxI_uniq e3 h1 h2]
      exact k _ F H (.refl hs) (.int _)
theorem cs_min : CallS (.builtin "min") gMin := by
  intro W N sc X gd F H xs dxs r hs hx e Q k
  unfold gMin at e
  split at e
  · rename_i i j
    cases e
    obtain ⟨x, y, rfl, h1, h2⟩ := hx.two
    obtain rfl := h1.int_
    obtain rfl := h2.int_
    exact ⟨_, call_min2 gd.calm, i, j, rfl, k _ F H (.refl hs) (.int _)⟩
  · obtain ⟨x, ns, rfl, e1, e2⟩ := gOfInts_some e
    cases e3 : minI ns with
    | none => simp [e3] at e2
    | some m =>
      simp only [e3, Option.map_some, Option.some.injEq] at e2
      subst e2
      obtain ⟨v, rfl, h⟩ := hx.one
      obtain ⟨p, vs, rfl, q, rs⟩ := h.lstOf hs e1
      rw [rs.intsV] at q
      refine ⟨_, cr_min gd.calm, p, ns, rfl, by rw [gd.K]; exact q, by cases ns with | nil => cases e3 | cons _ _ => simp, fun m' h1 h2 => ?_⟩
      rw [minI_uniq e3 h1 h2]
      exact k _ F H (.refl hs) (.int _)
def gOfBls (g : List Bool → D) : List D → Option D
  | [.lst ds] => match blsD ds with
    | some ns => some (g ns)
    | none => none
  | _ => none
theorem gOfBls_some {g : List Bool → D} {xs : List D} {r : D} (h : gOfBls g xs = some r) : ∃ ns, xs = [.lst (ns.map D.bl)] ∧ r = g ns := by
  unfold gOfBls at h
  split at h
  rotate_left
  · cases h
  rename_i ds
  split at h
  rotate_left
  · cases h
  rename_i ns e2
  cases h
  exact ⟨ns, by rw [blsD_eq e2], rfl⟩
def gAll : List D → Option D := gOfBls fun bs => .bl (bs.all id)
def gAny : List D → Option D := gOfBls fun bs => .bl (bs.any id)
theorem cs_all : CallS (.builtin "all") gAll := by
  intro W N sc X gd F H xs dxs r hs hx e Q k
  obtain ⟨ns, rfl, rfl⟩ := gOfBls_some e
  obtain ⟨v, rfl, h⟩ := hx.one
  obtain ⟨p, vs, rfl, q, rs⟩ := h.lst_ hs
  rw [rs.blsV] at q
  exact ⟨_, cr_all gd.calm, p, ns, rfl, .of q, k _ F H (.refl hs) (.bl _)⟩
theorem cs_any : CallS (.builtin "any") gAny := by
  intro W N sc X gd F H xs dxs r hs hx e Q k
  obtain ⟨ns, rfl, rfl⟩ := gOfBls_some e
  obtain ⟨v, rfl, h⟩ := hx.one
  obtain ⟨p, vs, rfl, q, rs⟩ := h.lst_ hs
  rw [rs.blsV] at q
  exact ⟨_, cr_any gd.calm, p, ns, rfl, .of q, k _ F H (.refl hs) (.bl _)⟩
/-! ### int, bool, str, tuple -/
def gInt : List D → Option D
  | [.int i] => some (.int i)
  | [.bl b] => some (.int (if b then 1 else 0))
  | _ => none
theorem cs_int : CallS (.type "int") gInt := by
  intro W N sc X gd F H xs dxs r hs hx e Q k
  unfold gInt at e
  split at e
  · cases e
    obtain ⟨v, rfl, h⟩ := hx.one
    obtain rfl := h.int_
    exact ⟨_, call_int1, .inl ⟨_, rfl, k _ F H (.refl hs) (.int _)⟩⟩
  · cases e
    obtain ⟨v, rfl, h⟩ := hx.one
    obtain rfl := h.bl_
    exact ⟨_, call_int1, .inr ⟨_, rfl, k _ F H (.refl hs) (.int _)⟩⟩
  · cases e
def gBool : List D → Option D
  | [.int i] => some (.bl (i != 0))
  | [.bl b] => some (.bl b)
  | _ => none
theorem cs_bool : CallS (.type "bool") gBool := by
  intro W N sc X gd F H xs dxs r hs hx e Q k
  unfold gBool at e
  split at e
  · cases e
    obtain ⟨v, rfl, h⟩ := hx.one
    obtain rfl := h.int_
    exact ⟨_, call_bool1, .inl ⟨_, rfl, k _ F H (.refl hs) (.bl _)⟩⟩
  · cases e
    obtain ⟨v, rfl, h⟩ := hx.one
    obtain rfl := h.bl_
    exact ⟨_, call_bool1, .inr ⟨_, rfl, k _ F H (.refl hs) (.bl _)⟩⟩
  · cases e
def gStr : List D → Option D
  | [.int i] => if i.natAbs < 10 ^ 18 then some (.str (toString i : String)) else none
  | [.str x] => some (.str x)
  | _ => none
theorem log2_lt18 {n : Nat} (h : n < 10 ^ 18) : n.log2 < 1920 := by
  by_cases h0 : n = 0
  · subst h0; decide
  · have := (Nat.log2_lt h0 (k := 60)).mpr (Nat.lt_of_lt_of_le h (by decide))
    omega
theorem cs_str : CallS (.type "str") gStr := by
  intro W N sc X gd F H xs dxs r hs hx e Q k
  unfold gStr at e
  split at e
  · split at e
    · rename_i i hz
      cases e
      obtain ⟨v, rfl, h⟩ := hx.one
      obtain rfl := h.int_
      exact ⟨_, call_str_int, _, rfl, log2_lt18 hz, k _ F H (.refl hs) (.str _)⟩
    · cases e
  · cases e
    obtain ⟨v, rfl, h⟩ := hx.one
    obtain rfl := h.str_
    exact ⟨_, SkE.call_str_str, _, rfl, k _ F H (.refl hs) (.str _)⟩
  · cases e
def gTuple : List D → Option D
  | [.tup ds] => some (.tup ds)
  | [.lst ds] => some (.tup ds)
  | [.scr ns] => some (.tup (ns.map D.int))
  | _ => none
theorem cs_tuple : CallS (.type "tuple") gTuple := by
  intro W N sc X gd F H xs dxs r hs hx e Q k
  have key : ∀ p vs ds, xs = [.ref p] → r = .tup ds → SqL X.K H p vs → Reps W.K W.cA F vs ds → cStar X (.type "tuple") xs H Q := fun p vs ds e1 e2 q rs => by
    subst e1 e2
    refine ⟨_, call_tuple_of, p, vs, rfl, .inl ⟨q, fun l hl => ?_⟩⟩
    have n := New.one (o := .tup vs) hs hl
    exact k _ _ _ n (.tup (.inl (.inl upd_same)) (rs.mono n.fr))
  unfold gTuple at e
  split at e
  · cases e
    obtain ⟨v, rfl, h⟩ := hx.one
    obtain ⟨p, vs, rfl, q, rs⟩ := h.tupF.tup_
    exact ⟨_, call_tuple_of, p, vs, rfl, .inr ⟨by rw [gd.K]; exact hs.sqT q, k _ F H (.refl hs) (.tup q rs)⟩⟩
  · cases e
    obtain ⟨v, rfl, h⟩ := hx.one
    obtain ⟨p, vs, rfl, q, rs⟩ := h.lst_ hs
    exact key p vs _ rfl rfl (.of q) rs
  · cases e
    obtain ⟨v, rfl, h⟩ := hx.one
    obtain ⟨p, rfl, q⟩ := h.scr_ hs
    exact key p _ _ rfl rfl (by rw [gd.K]; exact q) .ints
  · cases e
/-! ### new lists, dicts -/
def CallFS (f : Value) (g : List D → Option Cell) : Prop :=
  ∀ (W : Wd) (N : List Str) (sc : Scp) (X : Cx), Gd W N sc X → ∀ (F H : Hp) (xs : List V) (dxs : List D) (c : Cell), SubH F H → VReps W.K W.cA F H xs dxs → g dxs = some c →
    ∀ Q : VK, (∀ p o, H p = none → notFrz c = true → CellR W.K W.cA F (upd H p o) p c → Q (.ref p) (upd H p o)) → cStar X f xs H Q
def cCall (g : List D → Option Cell) (fa : AF) : CF := fun env M => match fa env M with
  | some (ss, M1) => match views M1 ss with
    | some xs => match g xs with
      | some r => some (r, M1)
      | none => none
    | none => none
  | none => none
section
variable {W : Wd} {N : List Str} {sc : Scp} {a b c : Expr} {fa fb fc : EF} {es : List Expr} {ga : AF} {pos : Pos}
theorem tFr_call {X : Cx} (gd : Gd W N sc X) {f : Value} {g : List D → Option Cell} (ho : CallFS f g) : ∀ σ H Q, tFr W (cCall g ga) σ H Q → tCB (cStar X f) (tAv W ga) σ H Q := by
  intro σ H Q h
  obtain ⟨env, M, c, M', F, κ, e, t, er, k⟩ := h
  unfold cCall at e
  split at e
  rotate_left
  · cases e
  rename_i ss M1 e1
  split at e
  rotate_left
  · cases e
  rename_i xs e2
  split at e
  rotate_left
  · cases e
  rename_i r e3
  simp only [Option.some.injEq, Prod.mk.injEq] at e
  obtain ⟨rfl, rfl⟩ := e
  refine ⟨env, M, ss, M1, F, κ, e1, t, er, fun F1 κ1 H1 vs x1 t1 rs => ?_⟩
  refine ho W N sc X gd F1 H1 vs xs r t1.sub (t1.views rs e2) e3 Q fun p o hp hn hc => ?_
  exact k F1 κ1 _ p x1 (t1.new (New.oneH t1.sub hp)) (t1.fresh hp) hn hc
theorem df_callB {id : String} {x : Str} {p : Pos} {g : List D → Option Cell} (hc : CallFS (.builtin id) g) (hf : Free W sc x) (hv : bootBuiltins x = some (.builtin id)) (hst : notStar a = true) (hss : es.all notStar = true) (ha : DA W N sc (a :: es) ga)
    (hn : x ≠ "__name__") (hdb : (x == ("__debug__" : Str)) = false) : DF W N sc (.Call (.Name x p) (a :: es) [] pos) (cCall g ga) := fun X gd =>
  PE.imp (pe_callB (CallR.star X _) (gd.gl hf.1) (by rw [gd.mg]; exact hf.2) hv (ha X gd) hn hdb (star_cons hst _ _) (plain_args hss _ _)) (tFr_call gd hc)
theorem df_callT {T : String} {x : Str} {p : Pos} {g : List D → Option Cell} (hc : CallFS (.type T) g) (hf : Free W sc x) (hv : bootBuiltins x = some (.type T)) (hst : notStar a = true) (hss : es.all notStar = true) (ha : DA W N sc (a :: es) ga)
    (hn : x ≠ "__name__") (hdb : (x == ("__debug__" : Str)) = false) : DF W N sc (.Call (.Name x p) (a :: es) [] pos) (cCall g ga) := fun X gd =>
  PE.imp (pe_callTy (CallR.star X _) (gd.gl hf.1) (by rw [gd.mg]; exact hf.2) hv (ha X gd) hn hdb (star_cons hst _ _) (plain_args hss _ _)) (tFr_call gd hc)
end
/-- list(x) -/
def cList : List D → Option Cell
  | [x] => match itemsOf x with
    | some ds => some (.lst ds)
    | none => none
  | _ => none
theorem cf_list : CallFS (.type "list") cList := by
  intro W N sc X gd F H xs dxs c hs hx e Q k
  unfold cList at e
  split at e
  rotate_left
  · cases e
  rename_i x
  split at e
  rotate_left
  · cases e
  rename_i ds e1
  cases e
  obtain ⟨v, rfl, h⟩ := hx.one
  obtain ⟨p, vs, rfl, q, rs⟩ := h.seq hs e1
  refine ⟨_, call_list_of, p, vs, rfl, by rw [gd.K]; exact q, fun l hl => ?_⟩
  exact k l _ hl rfl ⟨hs.none hl, vs, upd_same, rs⟩
/-- insertion: numbers -/
def insI (x : Int) : List Int → List Int
  | [] => [x]
  | y :: r => if x ≤ y then x :: y :: r else y :: insI x r
def sortI : List Int → List Int
  | [] => []
  | x :: r => insI x (sortI r)
theorem insI_perm (x : Int) : ∀ r : List Int, (insI x r).Perm (x :: r)
  | [] => .refl _
  | y :: r => by
    unfold insI
    split
    · exact .refl _
    · exact ((insI_perm x r).cons y).trans (.swap x y r)
theorem sortI_perm : ∀ r : List Int, (sortI r).Perm r
  | [] => .refl _
  | x :: r => (insI_perm x _).trans ((sortI_perm r).cons x)
theorem insI_sorted (x : Int) : ∀ {r : List Int}, r.Pairwise (· ≤ ·) → (insI x r).Pairwise (· ≤ ·)
  | [], _ => by simp [insI]
  | y :: r, h => by
    unfold insI
    obtain ⟨h1, h2⟩ := List.pairwise_cons.mp h
    split
    · rename_i hxy
      refine List.pairwise_cons.mpr ⟨fun z hz => ?_, h⟩
      rcases List.mem_cons.mp hz with rfl | hz
      · exact hxy
      · have := h1 z hz; omega
    · rename_i hxy
      refine List.pairwise_cons.mpr ⟨fun z hz => ?_, insI_sorted x h2⟩
      rcases List.mem_cons.mp ((insI_perm x r).mem_iff.mp hz) with rfl | hz
      · omega
      · exact h1 z hz
theorem sortI_sorted : ∀ r : List Int, (sortI r).Pairwise (· ≤ ·)
  | [] => .nil
  | x :: r => insI_sorted x (sortI_sorted r)
theorem sortI_uniq {ns ms : List Int} (h1 : ms.Perm ns) (h2 : ms.Pairwise (· ≤ ·)) : ms = sortI ns :=
  List.Perm.eq_of_pairwise (le := (· ≤ ·)) (fun a b _ _ h1 h2 => Int.le_antisymm h1 h2) h2 (sortI_sorted ns) (h1.trans (sortI_perm ns).symm)
def cSorted : List D → Option Cell
  | [x] => match lstOf x with
    | some ds => match intsD ds with
      | some ns => some (.lst ((sortI ns).map D.int))
      | none => none
    | none => none
  | _ => none
theorem cf_sorted : CallFS (.builtin "sorted") cSorted := by
  intro W N sc X gd F H xs dxs c hs hx e Q k
  unfold cSorted at e
  split at e
  rotate_left
  · cases e
  rename_i x
  split at e
  rotate_left
  · cases e
  rename_i ds e1
  split at e
  rotate_left
  · cases e
  rename_i ns e2
  cases e
  obtain ⟨v, rfl, h⟩ := hx.one
  obtain ⟨p, vs, rfl, q, rs⟩ := h.lstOf hs e1
  rw [intsD_eq e2] at rs
  rw [rs.intsV] at q
  refine ⟨_, cr_sortedI, p, ns, rfl, by rw [gd.K]; exact q, fun ms l h1 h2 hl => ?_⟩
  rw [sortI_uniq h1 h2]
  exact k l _ hl rfl ⟨hs.none hl, _, upd_same, .ints⟩
/-- dict(x), a list of pairs or a dict -/
def pairsD : List D → Option (List (Key × D))
  | [] => some []
  | .tup [k, v] :: r => match keyD k with
    | some q => match pairsD r with
      | some kvs => some ((q, v) :: kvs)
      | none => none
    | none => none
  | _ => none
def mergeD (kds more : List (Key × D)) : List (Key × D) := more.foldl (fun acc kv => putD acc kv.1 kv.2) kds
def cDict : List D → Option Cell
  | [.lst ds] => match pairsD ds with
    | some kvs => some (.dct (mergeD [] kvs))
    | none => none
  | [.dct kds] => some (.dct kds)
  | _ => none
theorem pairsD_cons {d : D} {r : List D} {kds : List (Key × D)} (h : pairsD (d :: r) = some kds) : ∃ k v q kvs, d = .tup [k, v] ∧ keyD k = some q ∧ pairsD r = some kvs ∧ kds = (q, v) :: kvs := by
  unfold pairsD at h
  split at h
  · rename_i e; cases e
  · rename_i e
    injection e with e1 e2
    subst e1 e2
    rename_i k v
    split at h
    rotate_left
    · cases h
    rename_i q e3
    split at h
    rotate_left
    · cases h
    rename_i kvs e4
    cases h
    exact ⟨k, v, q, kvs, rfl, e3, e4, rfl⟩
  · cases h
theorem pairs_rep {K : PySem.W.Frag} {cA : Str → Option Addr} {F H : Hp} (hs : SubH F H) : ∀ {ds : List D} {vs : List V} {kds : List (Key × D)}, Reps K cA F vs ds → pairsD ds = some kds →
    ∃ (ps : List Addr) (kvs : List (Key × V)), vs = ps.map V.ref ∧ Paired (fun p kv => SqT K H p [kV kv.1, kv.2]) ps kvs ∧ kvs.map (·.1) = kds.map (·.1) ∧ Reps K cA F (kvs.map (·.2)) (kds.map (·.2))
  | [], vs, kds, r, h => by
    cases h; cases r
    exact ⟨[], [], rfl, .nil, rfl, .nil⟩
  | d :: ds, vs, kds, r, h => by
    obtain ⟨k, v, q, kvs, rfl, e1, e2, rfl⟩ := pairsD_cons h
    cases r with
    | cons r rr =>
      obtain ⟨ps, kvs', h1, h2, h3, h4⟩ := pairs_rep hs rr e2
      obtain ⟨p, ws, rfl, sq, rs⟩ := r.tup_
      cases rs with
      | cons ra rs =>
        cases rs with
        | cons rb rs =>
          cases rs
          have := keyD_rep (H := H) (.rep ra) e1
          subst this
          rename_i w
          exact ⟨p :: ps, (q, w) :: kvs', by rw [h1]; rfl, .cons (hs.sqT sq) h2, by simp [h3], .cons rb h4⟩
theorem merge_rep {K : PySem.W.Frag} {cA : Str → Option Addr} {F : Hp} : ∀ {more : List (Key × V)} {mored : List (Key × D)} {kvs : List (Key × V)} {kds : List (Key × D)}, more.map (·.1) = mored.map (·.1) → Reps K cA F (more.map (·.2)) (mored.map (·.2)) → kvs.map (·.1) = kds.map (·.1) → Reps K cA F (kvs.map (·.2)) (kds.map (·.2)) →
    (mergeK kvs more).map (·.1) = (mergeD kds mored).map (·.1) ∧ Reps K cA F ((mergeK kvs more).map (·.2)) ((mergeD kds mored).map (·.2))
  | [], [], kvs, kds, _, _, h1, h2 => ⟨h1, h2⟩
  | [], _ :: _, _, _, e, _, _, _ => by simp at e
  | _ :: _, [], _, _, e, _, _, _ => by simp at e
  | (k, v) :: more, (k', d) :: mored, kvs, kds, e, r, h1, h2 => by
    simp only [List.map_cons, List.cons.injEq] at e
    obtain ⟨rfl, e⟩ := e
    cases r with
    | cons r rr =>
      obtain ⟨p1, p2⟩ := put_rep (k := k) h1 h2 r
      have := merge_rep (kvs := putK kvs k v) (kds := putD kds k d) e rr p1 p2
      exact this
theorem cf_dict : CallFS (.type "dict") cDict := by
  intro W N sc X gd F H xs dxs c hs hx e Q k
  unfold cDict at e
  split at e
  · split at e
    rotate_left
    · cases e
    rename_i ds kds e1
    cases e
    obtain ⟨v, rfl, h⟩ := hx.one
    obtain ⟨p, vs, rfl, q, rs⟩ := h.lst_ hs
    obtain ⟨ps, kvs, e2, h2, h3, h4⟩ := pairs_rep hs rs e1
    subst e2
    refine ⟨_, call_dictP gd.calm, p, ps, kvs, rfl, .of q, by rw [gd.K]; exact h2, fun l hl => ?_⟩
    obtain ⟨m1, m2⟩ := merge_rep (kvs := []) (kds := []) h3 h4 rfl .nil
    exact k l _ hl rfl ⟨hs.none hl, _, upd_same, m1, m2⟩
  · rename_i kds
    cases e
    obtain ⟨v, rfl, h⟩ := hx.one
    obtain ⟨p, kvs, rfl, q, en, rs⟩ := h.dct0 hs
    refine ⟨_, call_dictD, p, kvs, rfl, q, fun l hl => ?_⟩
    exact k l _ hl rfl ⟨hs.none hl, _, upd_same, en, rs⟩
  · cases e
end G
/-! A def by its body. -/
namespace G
open PySem L2
/-- the slots at a def's begin -/
def env0 (nN : Nat) (ss : List S) : Ev := ss.map some ++ List.replicate (nN - ss.length) none
/-- what a def means: its result is changed no more, its cells are dropped -/
def fnD (np nN : Nat) (body : SF) : FSem := fun ss M => if ss.length = np then match body (env0 nN ss) M with
    | some (.rt s M1) => match frz M1 s with
      | some (d, M2) => if M.length ≤ M2.length then some (.d d, M2.take M.length) else none
      | none => none
    | some (.nx _ M1) => if M.length ≤ M1.length then some (.d .non, M1.take M.length) else none
    | _ => none
  else none
/-- .. its result may be changed -/
def fnL (np nN : Nat) (body : SF) : FSem := fun ss M => if ss.length = np then match body (env0 nN ss) M with
    | some (.rt s M1) => some (s, M1)
    | some (.nx _ M1) => some (.d .non, M1)
    | _ => none
  else none
theorem start_env {K : PySem.W.Frag} {cA : Str → Option Addr} {F : Hp} {κ : List Addr} {N : List Str} {vs : List V} {ss : List S} (h : SReps K cA F κ vs ss) : EnvR K cA F κ (L2.start N vs) (env0 N.length ss) := by
  have hl := h.length
  refine ⟨by simp [L2.start, env0, hl], fun i s q => ?_⟩
  have key : ∀ {vs : List V} {ss : List S}, SReps K cA F κ vs ss → ∀ (i : Nat) (s : S), ss[i]? = some s → ∃ v, vs[i]? = some v ∧ SRep K cA F κ v s := fun {vs ss} h => by
    induction h with
    | nil => intro i s e; simp at e
    | cons r t ih =>
      intro i s e
      cases i with
      | zero => simp at e; subst e; exact ⟨_, rfl, r⟩
      | succ i => obtain ⟨v, a, b⟩ := ih i s (by simpa using e); exact ⟨v, by simpa using a, b⟩
  unfold env0 at q
  by_cases hi : i < ss.length
  · rw [List.getElem?_append_left (by simpa using hi), List.getElem?_map] at q
    cases e : ss[i]? with
    | none => rw [e] at q; cases q
    | some s' =>
      rw [e] at q
      cases q
      obtain ⟨v, a, b⟩ := key h i s e
      refine ⟨v, ?_, b⟩
      unfold L2.start
      rw [List.getElem?_append_left (by simp; omega), List.getElem?_map, a]
      all_goals rfl
  · rw [List.getElem?_append_right (by simp; omega)] at q
    rw [List.getElem?_replicate] at q
    split at q
    · cases q
    · cases q
/-- one level deeper -/
def Wd.at (W : Wd) (k : Nat) : Wd := { W with k := k }
theorem gd_of {W : Wd} {N ps : List Str} {qual : Str} {scope : Scope} {f : Addr} {cdv : Value} {A : Around} {outer : List Env} {s : Shared} {H : Hp} {E : XK} {k : Nat} (S : FnScope N ps scope) (hr : Room k (A.deeper (PyProof.Rows.envOfC qual scope s.heap.objs.size f cdv))) (fs : Str → Bool) :
    Gd (W.at k) N { scope with fs := fs } (cxOf CX0 W.P W.w W.K W.mg W.base N qual scope f cdv A outer s H E).nox :=
  ⟨rfl, rfl, rfl, rfl, rfl, rfl, rfl, rfl, hr, S.nd, fun _ _ => rfl, rfl⟩
theorem SReps.len {K : PySem.W.Frag} {cA : Str → Option Addr} {F : Hp} {κ : List Addr} {vs : List V} {ss : List S} (h : SReps K cA F κ vs ss) : vs.length = ss.length := h.length
theorem Stt.cut {K : PySem.W.Frag} {cA : Str → Option Addr} {F F' H H' : Hp} {κ κ' : List Addr} {M M' : Ms} (t : Stt K cA F H κ M) (x : Ext F κ F' κ') (t' : Stt K cA F' H' κ' M') : Ext F κ F' κ ∧ Stt K cA F' H' κ (M'.take M.length) := by
  obtain ⟨hs, m, hm⟩ := x
  have e : κ'.take M.length = κ := by rw [hm, ← t.len]; simp
  have q := t'.take M.length
  rw [e] at q
  exact ⟨.sub' hs, q⟩
section
variable {W : Wd} {N ps : List Str} {x qual : Str} {params : Arguments} {body : List Stmt} {scope : Scope} {f : Addr} {fd : FuncData} {k : Nat} {F : SF} {fs : Str → Bool}
theorem fnok_of (D : FunD W.K x qual params body scope [] [] f fd) (S : FnScope N ps scope) (h : DB (W.at k) N { scope with fs := fs } body F) : FnOk W.P W.w W.K W.mg W.base CX0 (k + 1) f fd ps (spG W (fnD ps.length N.length F)) := by
  refine D.ok S (fun vs H Q E h => ?_) (fun cdv A outer s H vs Q E hr hsp => ?_)
  · obtain ⟨F0, κ, M, ss, s, M', rs, e, _⟩ := h
    rw [rs.length]
    unfold fnD at e
    split at e
    · rename_i hl; exact hl
    · cases e
  · refine ⟨_, (h _ (gd_of S hr fs)).nox, ?_⟩
    obtain ⟨F0, κ, M, ss, r0, M', rs, e, t, q⟩ := hsp
    unfold fnD at e
    split at e
    rotate_left
    · cases e
    split at e
    · rename_i s1 M1 e1
      split at e
      rotate_left
      · cases e
      rename_i d M2 e2
      split at e
      rotate_left
      · cases e
      rename_i hl
      simp only [Option.some.injEq, Prod.mk.injEq] at e
      obtain ⟨rfl, rfl⟩ := e
      refine ⟨_, M, _, F0, κ, e1, t, start_env rs, fun F1 κ1 H1 v x1 t1 r1 => ?_⟩
      obtain ⟨F2, x2, t2, r2⟩ := Stt.frz (show Stt W.K W.cA F1 H1 κ1 M1 from t1) r1 e2
      obtain ⟨x3, t3⟩ := t.cut (x1.trans x2) t2
      exact q F2 κ H1 v x3 t3 r2
    · rename_i env' M1 e1
      split at e
      rotate_left
      · cases e
      rename_i hl
      simp only [Option.some.injEq, Prod.mk.injEq] at e
      obtain ⟨rfl, rfl⟩ := e
      refine ⟨_, M, _, F0, κ, e1, t, start_env rs, fun F1 κ1 H1 σ1 x1 t1 er1 => ?_⟩
      obtain ⟨x3, t3⟩ := t.cut x1 t1
      exact q F1 κ H1 .non x3 t3 (show Rep W.K W.cA F1 .non .non from .non)
    · cases e
theorem fnok_ofL (D : FunD W.K x qual params body scope [] [] f fd) (S : FnScope N ps scope) (h : DB (W.at k) N { scope with fs := fs } body F) : FnOk W.P W.w W.K W.mg W.base CX0 (k + 1) f fd ps (spG W (fnL ps.length N.length F)) := by
  refine D.ok S (fun vs H Q E h => ?_) (fun cdv A outer s H vs Q E hr hsp => ?_)
  · obtain ⟨F0, κ, M, ss, s, M', rs, e, _⟩ := h
    rw [rs.length]
    unfold fnL at e
    split at e
    · rename_i hl; exact hl
    · cases e
  · refine ⟨_, (h _ (gd_of S hr fs)).nox, ?_⟩
    obtain ⟨F0, κ, M, ss, r0, M', rs, e, t, q⟩ := hsp
    unfold fnL at e
    split at e
    rotate_left
    · cases e
    split at e
    · rename_i s1 M1 e1
      simp only [Option.some.injEq, Prod.mk.injEq] at e
      obtain ⟨rfl, rfl⟩ := e
      exact ⟨_, M, _, F0, κ, e1, t, start_env rs, fun F1 κ1 H1 v x1 t1 r1 => q F1 κ1 H1 v x1 t1 r1⟩
    · rename_i env' M1 e1
      simp only [Option.some.injEq, Prod.mk.injEq] at e
      obtain ⟨rfl, rfl⟩ := e
      exact ⟨_, M, _, F0, κ, e1, t, start_env rs, fun F1 κ1 H1 σ1 x1 t1 er1 => q F1 κ1 H1 .non x1 t1 (show Rep W.K W.cA F1 .non .non from .non)⟩
    · cases e
theorem fnHas_of (D : FunD W.K x qual params body scope [] [] f fd) (S : FnScope N ps scope) (hm : W.mg x = some (.ref f)) (hb : Binds W.K fd ps []) (h : DB (W.at k) N { scope with fs := fs } body F) : FnHas (W.at (k + 1)) x (fnD ps.length N.length F) :=
  ⟨f, fd, ps, hm, D.kp, hb, fnok_of (W := W) (k := k) D S h⟩
theorem fnHas_ofL (D : FunD W.K x qual params body scope [] [] f fd) (S : FnScope N ps scope) (hm : W.mg x = some (.ref f)) (hb : Binds W.K fd ps []) (h : DB (W.at k) N { scope with fs := fs } body F) : FnHas (W.at (k + 1)) x (fnL ps.length N.length F) :=
  ⟨f, fd, ps, hm, D.kp, hb, fnok_ofL (W := W) (k := k) D S h⟩
theorem methHas_of {c m : Str} (D : ∀ C, W.cA c = some C → ∃ f fd, FunD W.K x qual params body scope [] [] f fd ∧ Meth W.K C m f ∧ Binds W.K fd ps []) (S : FnScope N ps scope) (h : DB (W.at k) N { scope with fs := fs } body F) : MethHas (W.at (k + 1)) c m (fnD ps.length N.length F) := fun C hC =>
  let ⟨f, fd, d, hm, hb⟩ := D C hC
  ⟨f, fd, ps, hm, hb, fnok_of (W := W) (k := k) d S h⟩
theorem methHas_ofL {c m : Str} (D : ∀ C, W.cA c = some C → ∃ f fd, FunD W.K x qual params body scope [] [] f fd ∧ Meth W.K C m f ∧ Binds W.K fd ps []) (S : FnScope N ps scope) (h : DB (W.at k) N { scope with fs := fs } body F) : MethHas (W.at (k + 1)) c m (fnL ps.length N.length F) := fun C hC =>
  let ⟨f, fd, d, hm, hb⟩ := D C hC
  ⟨f, fd, ps, hm, hb, fnok_ofL (W := W) (k := k) d S h⟩
theorem mkHas_of {c : Str} {C : Addr} (hC : W.cA c = some C) (hm : W.mg c = some (.ref C)) (M : Mk W.K C f) (D : FunD W.K x qual params body scope [] [] f fd) (hb : Binds W.K fd ps []) (S : FnScope N ps scope) (h : DB (W.at k) N { scope with fs := fs } body F) : MkHas (W.at (k + 2)) c (fnD ps.length N.length F) :=
  ⟨C, f, fd, ps, k + 1, hC, hm, M, hb, fnok_of (W := W) (k := k) D S h, rfl⟩
theorem FnHas.lift {x : Str} {f : FSem} {j k : Nat} (h : FnHas (W.at j) x f) (hjk : j ≤ k) : FnHas (W.at k) x f := by
  obtain ⟨fa, fd, ps, a, b, c, d⟩ := h
  exact ⟨fa, fd, ps, a, b, c, d.mono hjk⟩
theorem MethHas.lift {c m : Str} {f : FSem} {j k : Nat} (h : MethHas (W.at j) c m f) (hjk : j ≤ k) : MethHas (W.at k) c m f := fun C hC => by
  obtain ⟨fa, fd, ps, a, b, d⟩ := h C hC
  exact ⟨fa, fd, ps, a, b, d.mono hjk⟩
theorem MkHas.lift {c : Str} {f : FSem} {j k : Nat} (h : MkHas (W.at j) c f) (hjk : j ≤ k) : MkHas (W.at k) c f := by
  obtain ⟨C, fa, fd, ps, i, a, b, cc, d, e, hi⟩ := h
  have hi : i + 1 = j := hi
  exact ⟨C, fa, fd, ps, k - 1, a, b, cc, d, e.mono (by omega), by show k - 1 + 1 = k; omega⟩
end
/-! ### names, at once -/
def vOk (N : List Str) (sc : Scp) (i : Nat) (x : Str) : Bool := decide (N[i]? = some x) && ((sc.names.lookup x == some .local) || (sc.names.lookup x == some .cell) || (sc.names.lookup x == some .free)) && !(x == ("__debug__" : Str)) && !(x == ("__classdict__" : Str))
def sOk (N : List Str) (sc : Scp) (i : Nat) (x : Str) : Bool := decide (N[i]? = some x) && ((sc.names.lookup x == some .local) || ((sc.names.lookup x == some .cell) && sc.fs x))
def gOk (sc : Scp) (x : Str) : Bool := (sc.names.lookup x == some .globalImplicit) && !(x == ("__debug__" : Str)) && !decide (x = "__name__")
def lOk (N : List Str) (sc : Scp) (i : Nat) (x : Str) : Bool := decide (N[i]? = some x) && (sc.names.lookup x == some .local)
section
variable {W : Wd} {N : List Str} {sc : Scp} {x : Str} {i : Nat} {pos : Pos}
theorem vOk_v (h : vOk N sc i x = true) : DE W N sc (.Name x pos) (eVar i) := by
  unfold vOk at h
  simp only [Bool.and_eq_true, Bool.or_eq_true, beq_iff_eq, decide_eq_true_eq, Bool.not_eq_true'] at h
  obtain ⟨⟨⟨h1, h2⟩, h3⟩, h4⟩ := h
  refine de_var h1 ?_ h3 h4
  rcases h2 with (h2 | h2) | h2
  · exact .inl h2
  · exact .inr (.inl h2)
  · exact .inr (.inr h2)
theorem sOk_s (h : sOk N sc i x = true) : N[i]? = some x ∧ L2.Loc sc.toScope x ∧ (sc.fs x = true ∨ sc.names.lookup x = some .local) := by
  unfold sOk at h
  simp only [Bool.and_eq_true, Bool.or_eq_true, beq_iff_eq, decide_eq_true_eq] at h
  obtain ⟨h1, h2⟩ := h
  rcases h2 with h2 | ⟨h2, h3⟩
  · exact ⟨h1, .inl h2, .inr h2⟩
  · exact ⟨h1, .inr h2, .inl h3⟩
theorem gOk_g (h : gOk sc x = true) : sc.names.lookup x = some .globalImplicit ∧ (x == ("__debug__" : Str)) = false ∧ x ≠ "__name__" := by
  unfold gOk at h
  simp only [Bool.and_eq_true, beq_iff_eq, Bool.not_eq_true', decide_eq_false_iff_not] at h
  exact ⟨h.1.1, h.1.2, h.2⟩
theorem lOk_l (h : lOk N sc i x = true) : N[i]? = some x ∧ sc.names.lookup x = some .local := by
  unfold lOk at h
  simp only [Bool.and_eq_true, beq_iff_eq, decide_eq_true_eq] at h
  exact h
end
end G
/-! What the top has written, looked at once; the law's end. -/
namespace G
open PySem L2
inductive Fx where
  | free (x : Str) | cls (c : Str) | noat (c f : Str) | meth (c m : Str) | mkr (c : Str) | kit (t u : Ty) (b : Bool) | isi (c : Str) | nf (c c' : Str) | tree (x : Str) (d : D) | notru (c : Str) | glo (x : Str) | mk0 (c : Str)
def tyVal (K : PySem.W.Frag) : Ty → Value
  | .bt n => .type n
  | .cl c => .ref (He.ga K c)
mutual
def treeB (K : PySem.W.Frag) : D → Value → Bool
  | .non, .none => true
  | .bl b, .bool c => b == c
  | .int i, .int j _ => decide (i = j)
  | .str x, .str y _ => decide (x = y)
  | .tup ds, .ref a => match K.lookup a with
    | some ⟨.type c, _, .seq its _, _⟩ => decide (c = "tuple") && decide (its.size ≤ sizeLine) && treesB K ds its.toList
    | _ => false
  | _, _ => false
def treesB (K : PySem.W.Frag) : List D → List Value → Bool
  | [], [] => true
  | d :: ds, v :: vs => treeB K d v && treesB K ds vs
  | _, _ => false
end
def Fx.ok (K : PySem.W.Frag) : Fx → Bool
  | .free x => He.eqO (PySem.W.nsIn K mainGlobals x) (some none)
  | .glo x => (He.Fa.glo x).ok K
  | .cls c => (He.Fa.cls c).ok K && (He.Fa.glo c).ok K
  | .noat c f => (He.Fa.noat c f).ok K
  | .meth c m => (He.Fa.meth c m).ok K
  | .mkr c => (He.Fa.mkr c).ok K
  | .kit t u b => decide (PySem.W.kitOne K (tyVal K t) (tyVal K u) = some b)
  | .isi c => He.eqO (PySem.W.findIn K (.ref (He.ga K c)) "__class__") (some (some (.builtin "object.__class__"))) && (He.eqO (PySem.W.specialIn K (.builtin "object.__class__") "__get__") (some (some (.builtin "getset_descriptor.__get__"))) &&
      (decide (PySem.W.takesIn K (.builtin "object.__class__") = some true) && decide (PySem.W.mroIn K (He.ga K c) (.type "object") = some true)))
  | .nf c c' => PySem.W.notFirst K (He.ga K c) (.ref (He.ga K c'))
  | .tree x d => match PySem.W.nsIn K mainGlobals x with
    | some (some v) => treeB K d v
    | _ => false
  | .notru c => He.eqO (PySem.W.findIn K (.ref (He.ga K c)) "__bool__") (some none) && He.eqO (PySem.W.findIn K (.ref (He.ga K c)) "__len__") (some none)
  | .mk0 c => PySem.W.makesIn K (He.ga K c) && (He.eqO (PySem.W.findIn K (.ref (He.ga K c)) "__init__") (some (some (.builtin "object.__init__"))) && PySem.W.keepIn K (.ref (He.ga K c)))
section
variable {K : PySem.W.Frag} {cA : Str → Option Addr}
mutual
theorem treeB_ok : ∀ {d : D} {u : Value}, treeB K d u = true → ∃ v, RelV v u ∧ ∀ F, Rep K cA F v d
  | .non, u, h => by
    cases u <;> first | exact ⟨.non, rfl, fun F => .non⟩ | (unfold treeB at h; cases h)
  | .bl b, u, h => by
    cases u with
    | bool c => unfold treeB at h; have := eq_of_beq h; subst this; exact ⟨.bl _, rfl, fun F => .bl _⟩
    | _ => unfold treeB at h; cases h
  | .int b, u, h => by
    cases u with
    | int c t => unfold treeB at h; have := of_decide_eq_true h; subst this; exact ⟨.int _, ⟨t, rfl⟩, fun F => .int _⟩
    | _ => unfold treeB at h; cases h
  | .str b, u, h => by
    cases u with
    | str c t => unfold treeB at h; have := of_decide_eq_true h; subst this; exact ⟨.str _, ⟨t, rfl⟩, fun F => .str _⟩
    | _ => unfold treeB at h; cases h
  | .tup ds, u, h => by
    cases u with
    | ref a =>
      unfold treeB at h
      split at h
      · rename_i c d0 its n sl q
        simp only [Bool.and_eq_true, decide_eq_true_eq] at h
        obtain ⟨⟨h1, h2⟩, h3⟩ := h
        obtain ⟨vs, r1, r2⟩ := treesB_ok h3
        exact ⟨.ref a, rfl, fun F => .tup (.inr ⟨_, its, n, q, congrArg Value.type h1, rfl, h2, r1⟩) (r2 F)⟩
      · cases h
    | _ => unfold treeB at h; cases h
  | .lst ds, u, h => by unfold treeB at h; cases u <;> cases h
  | .scr ds, u, h => by unfold treeB at h; cases u <;> cases h
  | .dct ds, u, h => by unfold treeB at h; cases u <;> cases h
  | .obj _ ds, u, h => by unfold treeB at h; cases u <;> cases h
theorem treesB_ok : ∀ {ds : List D} {us : List Value}, treesB K ds us = true → ∃ vs, Vals vs us ∧ ∀ F, Reps K cA F vs ds
  | [], [], _ => ⟨[], .nil, fun F => .nil⟩
  | [], _ :: _, h => by unfold treesB at h; cases h
  | _ :: _, [], h => by unfold treesB at h; cases h
  | d :: ds, u :: us, h => by
    unfold treesB at h
    obtain ⟨h1, h2⟩ := Bool.and_eq_true_iff.mp h
    obtain ⟨v, a1, a2⟩ := treeB_ok h1
    obtain ⟨vs, b1, b2⟩ := treesB_ok h2
    exact ⟨v :: vs, .cons a1 b1, fun F => .cons (a2 F) (b2 F)⟩
end
end
/-! ### the Hook -/
def obsX (fa : List Fx) (fn : List He.DefD) (K : PySem.W.Frag) : He.AlD := ((fa.all fun f => f.ok K) && fn.all fun d => d.ok K, fn.map fun d => He.fnW K d.at_)
def SaysX (fa : List Fx) (fn : List He.DefD) (K : PySem.W.Frag) : Prop := obsX fa fn K = He.valD fn
def obsXG (n : Nat) (fa : List Fx) (fn : List He.DefD) (g : Addr → Option Obj) : He.AlD := obsX fa fn (He.frG g (He.asD g n))
def hookX (n : Nat) (fa : List Fx) (fn : List He.DefD) : PySem.W.Hook where
  α := He.AlD
  obs := fun s => obsXG n fa fn s.heap.get?
  val := fun _ => He.valD fn
  says := fun _ h => ∃ K : PySem.W.Frag, K.In h ∧ SaysX fa fn K
  of := fun _ _ e => ⟨_, He.frG_in, e⟩
  keeps := fun _ _ _ ⟨K, hK, c⟩ k => ⟨K, PySem.W.Frag.In.keeps hK k, c⟩
theorem obsXG_eq {n : Nat} {fa : List Fx} {fn : List He.DefD} {g : Addr → Option Obj} {s : Shared} (h : ∀ a, g a = s.heap.get? a) : obsXG n fa fn g = (hookX n fa fn).obs s := by
  have e : g = s.heap.get? := funext h
  rw [e] <;> rfl
section
variable {fa : List Fx} {fn : List He.DefD} {K : PySem.W.Frag}
theorem SaysX.fact (c : SaysX fa fn K) {f : Fx} (h : f ∈ fa) : f.ok K = true := by
  have c1 := (He.ba (show ((fa.all fun f => f.ok K) && fn.all fun d => d.ok K) = true from congrArg (fun z : He.AlD => z.1) c)).1
  exact List.all_eq_true.mp c1 f h
theorem SaysX.def_ (c : SaysX fa fn K) (i : Nat) {d : He.DefD} (h : fn[i]? = some d) : ∃ fd, FunD K d.name d.qual d.params d.body d.scope (d.dvs K) (d.kws K) (He.fAd K d.at_) fd := by
  have c2 := (He.ba (show ((fa.all fun f => f.ok K) && fn.all fun d => d.ok K) = true from congrArg (fun z : He.AlD => z.1) c)).2
  have e : fn.map (fun d => He.fnW K d.at_) = fn.map He.DefD.val := congrArg (fun z : He.AlD => z.2) c
  have e2 : (fn.map fun d => He.fnW K d.at_)[i]? = (fn.map He.DefD.val)[i]? := by rw [e]
  rw [List.getElem?_map, List.getElem?_map, h] at e2
  exact He.DefD.funD (Option.some.inj e2) (List.all_eq_true.mp c2 d (List.mem_of_getElem? h))
end
/-- where the walk goes on: the row's program, the facts fa of it; the classes cs -/
def cAof (K : PySem.W.Frag) (cs : List Str) (x : Str) : Option Addr := if cs.contains x then some (He.ga K x) else none
/-- what the facts say -/
structure Low (fa : List Fx) (cs : List Str) (W : Wd) : Prop where
  fact : ∀ f ∈ fa, f.ok W.K = true
  cA : W.cA = cAof W.K cs
  ns : ∃ h : Heap, W.K.In h ∧ h.Ns mainGlobals W.mg
section
variable {fa : List Fx} {cs : List Str} {W : Wd}
theorem Low.at (L : Low fa cs W) (k : Nat) : Low fa cs (W.at k) := ⟨L.fact, L.cA, L.ns⟩
theorem Low.cls_ (L : Low fa cs W) {c : Str} {C : Addr} (h : W.cA c = some C) : cs.contains c = true ∧ C = He.ga W.K c := by
  rw [L.cA] at h
  unfold cAof at h
  split at h
  · rename_i e; cases h; exact ⟨e, rfl⟩
  · cases h
theorem Low.is_ (L : Low fa cs W) {c : Str} (h : cs.contains c = true) : W.cA c = some (He.ga W.K c) := by
  rw [L.cA]
  unfold cAof
  rw [if_pos h]
theorem Low.free (L : Low fa cs W) {x : Str} (h : Fx.free x ∈ fa) : W.mg x = none := by
  obtain ⟨hp, X, G⟩ := L.ns
  exact PySem.W.mg_none_of X G (He.eqO_ok (L.fact _ h))
theorem Low.glo (L : Low fa cs W) {x : Str} (h : Fx.glo x ∈ fa) : W.mg x = some (.ref (He.ga W.K x)) := by
  obtain ⟨hp, X, G⟩ := L.ns
  exact He.glo_ok X G (L.fact _ h)
theorem Low.cls (L : Low fa cs W) {c : Str} (h : Fx.cls c ∈ fa) : Cls W.K (He.ga W.K c) ∧ W.mg c = some (.ref (He.ga W.K c)) := by
  obtain ⟨hp, X, G⟩ := L.ns
  obtain ⟨h1, h2⟩ := Bool.and_eq_true_iff.mp (show ((He.Fa.cls c).ok W.K && (He.Fa.glo c).ok W.K) = true from L.fact _ h)
  exact ⟨He.cls_ok h1, He.glo_ok X G h2⟩
theorem Low.free_ (L : Low fa cs W) {sc : Scp} {x : Str} (g : gOk sc x = true) (h : Fx.free x ∈ fa) : Free W sc x := ⟨(gOk_g g).1, L.free h⟩
theorem Low.tree (L : Low fa cs W) {x : Str} {d : D} (h : Fx.tree x d ∈ fa) : ∃ v u, W.mg x = some u ∧ RelV v u ∧ ∀ F, Rep W.K W.cA F v d := by
  obtain ⟨hp, X, G⟩ := L.ns
  have q : (match PySem.W.nsIn W.K mainGlobals x with
    | some (some v) => treeB W.K d v
    | _ => false) = true := L.fact _ h
  cases e : PySem.W.nsIn W.K mainGlobals x with
  | none => rw [e] at q; cases q
  | some o =>
    rw [e] at q
    cases o with
    | none => cases q
    | some u =>
      obtain ⟨v, r1, r2⟩ := treeB_ok (cA := W.cA) q
      exact ⟨v, u, PySem.W.mg_of X G e, r1, r2⟩
theorem Low.meth (L : Low fa cs W) {c m : Str} (h : Fx.meth c m ∈ fa) : Meth W.K (He.ga W.K c) m (He.ma W.K (He.ga W.K c) m) := He.meth_ok (L.fact _ h)
theorem Low.mkr (L : Low fa cs W) {c : Str} (h : Fx.mkr c ∈ fa) : Mk W.K (He.ga W.K c) (He.ma W.K (He.ga W.K c) "__init__") := He.mkr_ok (L.fact _ h)
/-- the tables that the facts give -/
def naT (fa : List Fx) (c f : Str) : Bool := fa.any fun x => match x with
  | .noat c' f' => decide (c = c') && decide (f = f')
  | _ => false
def ptT (fa : List Fx) (c : Str) : Bool := fa.any fun x => match x with
  | .notru c' => decide (c = c')
  | _ => false
def nfT (fa : List Fx) (c d : Str) : Bool := fa.any fun x => match x with
  | .nf c' d' => decide (c = c') && decide (d = d')
  | _ => false
def icT (fa : List Fx) (c : Str) : Bool := fa.any fun x => match x with
  | .isi c' => decide (c = c')
  | _ => false
def kitT (fa : List Fx) (t u : Ty) : Option Bool := fa.findSome? fun x => match x with
  | .kit t' u' b => if t = t' ∧ u = u' then some b else none
  | _ => none
theorem Low.na (L : Low fa cs W) : NaOk W (naT fa) := by
  intro c f C h hC
  obtain ⟨_, rfl⟩ := L.cls_ hC
  obtain ⟨x, hx, e⟩ := List.any_eq_true.mp h
  cases x with
  | noat c' f' =>
    simp only [Bool.and_eq_true, decide_eq_true_eq] at e
    obtain ⟨rfl, rfl⟩ := e
    exact He.noat_ok (L.fact _ hx)
  | _ => cases e
theorem Low.pt (L : Low fa cs W) : PlainTru W (ptT fa) := by
  intro c C h hC
  obtain ⟨_, rfl⟩ := L.cls_ hC
  obtain ⟨x, hx, e⟩ := List.any_eq_true.mp h
  cases x with
  | notru c' =>
    simp only [decide_eq_true_eq] at e
    subst e
    obtain ⟨h1, h2⟩ := Bool.and_eq_true_iff.mp (show (He.eqO (PySem.W.findIn W.K (.ref (He.ga W.K c)) "__bool__") (some none) && He.eqO (PySem.W.findIn W.K (.ref (He.ga W.K c)) "__len__") (some none)) = true from L.fact _ hx)
    exact ⟨He.eqO_ok h1, He.eqO_ok h2⟩
  | _ => cases e
theorem Low.nf (L : Low fa cs W) : NfOk W (nfT fa) := by
  intro c c' C C' h hC hC'
  obtain ⟨_, rfl⟩ := L.cls_ hC
  obtain ⟨_, rfl⟩ := L.cls_ hC'
  obtain ⟨x, hx, e⟩ := List.any_eq_true.mp h
  cases x with
  | nf c1 f1 =>
    simp only [Bool.and_eq_true, decide_eq_true_eq] at e
    obtain ⟨rfl, rfl⟩ := e
    exact L.fact _ hx
  | _ => cases e
theorem tyV_val {t : Ty} {v : V} {u : Value} (L : Low fa cs W) (h : TyV W t v u) : u = tyVal W.K t := by
  cases t with
  | bt n => exact h.2
  | cl c =>
    obtain ⟨C, hC, _, rfl⟩ := h
    obtain ⟨_, rfl⟩ := L.cls_ hC
    rfl
theorem Low.kit (L : Low fa cs W) : KitOk W (kitT fa) (icT fa) := by
  have key : ∀ c C, icT fa c = true → W.cA c = some C → (He.eqO (PySem.W.findIn W.K (.ref C) "__class__") (some (some (.builtin "object.__class__"))) && (He.eqO (PySem.W.specialIn W.K (.builtin "object.__class__") "__get__") (some (some (.builtin "getset_descriptor.__get__"))) &&
      (decide (PySem.W.takesIn W.K (.builtin "object.__class__") = some true) && decide (PySem.W.mroIn W.K C (.type "object") = some true)))) = true := fun c C h hC => by
    obtain ⟨_, rfl⟩ := L.cls_ hC
    obtain ⟨x, hx, e⟩ := List.any_eq_true.mp h
    cases x with
    | isi c' =>
      simp only [decide_eq_true_eq] at e
      subst e
      exact L.fact _ hx
    | _ => cases e
  refine ⟨fun t t' b v u v' u' h1 h2 h3 => ?_, fun c C h hC => ?_, fun c C h hC => ?_, fun c C h hC => ?_, fun c C h hC => ?_⟩
  · obtain ⟨x, hx, e⟩ := List.exists_of_findSome?_eq_some h1
    cases x with
    | kit t1 u1 b1 =>
      simp only at e
      split at e
      · rename_i hh
        obtain ⟨rfl, rfl⟩ := hh
        cases e
        rw [tyV_val L h2, tyV_val L h3]
        exact of_decide_eq_true (L.fact _ hx)
      · cases e
    | _ => cases e
  all_goals
    have q := key c C h hC
    simp only [Bool.and_eq_true, decide_eq_true_eq] at q
    obtain ⟨q1, q2, q3, q4⟩ := q
  · exact He.eqO_ok q1
  · exact He.eqO_ok q2
  · exact q3
  · exact q4
end
/-! ### the law -/
/-- the law's promise: handed a list of numbers it answers True -/
def spLaw (K : PySem.W.Frag) (n : Nat) : Sp := fun vs H Q _ => ∃ (a : Addr) (ns : List Int), vs = [.ref a] ∧ ns.length ≤ n ∧ SqL K H a (ns.map V.int) ∧ ∀ H', Q (.bl true) H'
theorem law_ok {W : Wd} {n k : Nat} {f : FSem} {fa : Addr} {fd : FuncData} {ps : List Str} (h : FnOk W.P W.w W.K W.mg W.base CX0 k fa fd ps (spG W f)) (hf : ∀ ns : List Int, ns.length ≤ n → f [.d (.scr ns)] [] = some (.d (.bl true), [])) : FnOk W.P W.w W.K W.mg W.base CX0 k fa fd ps (spLaw W.K n) := by
  refine h.imp fun vs H Q E hsp => ?_
  obtain ⟨a, ns, rfl, hl, hS, q⟩ := hsp
  refine ⟨H, [], [], [.d (.scr ns)], _, _, .cons (show Rep W.K W.cA H (.ref a) (.scr ns) from .scr hS) .nil, hf ns hl, ⟨(Sub.refl H).h, .nil, rfl, fun a h => by simp at h, fun k a c h => by simp at h⟩, fun F' κ' H' v x t r => ?_⟩
  have r : Rep W.K W.cA F' v (.bl true) := r
  cases r
  exact q H'
end G
/-! The rules as a printer of proofs names them. -/
namespace G
open PySem L2
def DW (W : Wd) (N : List Str) (sc : Scp) (e : Expr) (f : TF) : Prop := ∀ X, Gd W N sc X → PW X e (tTv W f)
section
variable {fa : List Fx} {cs : List Str} {W : Wd} {N : List Str} {sc : Scp} {a b c : Expr} {f1 f2 f3 : EF} {es : List Expr} {ga : AF} {pos p p2 : Pos} {x : Str} {i : Nat} {st : Stmt} {sts : List Stmt}
theorem t_w {e : Expr} {f : TF} (h : DW W N sc e f) : DT W N sc e f := fun X gd => (h X gd).pt
theorem w_a1 {f : TF} (h : DT W N sc a f) : DW W N sc (.BoolOp .And [a] pos) f := dw_and1 h
theorem w_o1 {f : TF} (h : DT W N sc a f) : DW W N sc (.BoolOp .Or [a] pos) f := dw_or1 h
theorem w_a {f g : TF} {rest : List Expr} (ha : DT W N sc a f) (hb : DW W N sc (.BoolOp .And (b :: rest) pos) g) : DW W N sc (.BoolOp .And (a :: b :: rest) pos) (tAnd_ f g) := dw_and ha hb
theorem w_o {f g : TF} {rest : List Expr} (ha : DT W N sc a f) (hb : DW W N sc (.BoolOp .Or (b :: rest) pos) g) : DW W N sc (.BoolOp .Or (a :: b :: rest) pos) (tOr_ f g) := dw_or ha hb
/-- a global that is data -/
theorem e_g {d : D} (L : Low fa cs W) (m : Fx.tree x d ∈ fa) (g : gOk sc x = true) : DE W N sc (.Name x pos) (eCst d) :=
  let ⟨v, u, h1, h2, h3⟩ := L.tree m
  de_glob (gOk_g g).1 h1 h2 h3 (gOk_g g).2.1
theorem e_bB {id : String} {g : List D → Option D} (hc : CallS (.builtin id) g) (hv : bootBuiltins x = some (.builtin id)) (L : Low fa cs W) (m : Fx.free x ∈ fa) (h : gOk sc x = true) (hst : notStar a = true) (hss : es.all notStar = true) (ha : DA W N sc (a :: es) ga) :
    DE W N sc (.Call (.Name x p) (a :: es) [] pos) (eCall g ga) := de_callB hc (L.free_ h m) hv hst hss ha (gOk_g h).2.2 (gOk_g h).2.1
theorem e_bT {T : String} {g : List D → Option D} (hc : CallS (.type T) g) (hv : bootBuiltins x = some (.type T)) (L : Low fa cs W) (m : Fx.free x ∈ fa) (h : gOk sc x = true) (hst : notStar a = true) (hss : es.all notStar = true) (ha : DA W N sc (a :: es) ga) :
    DE W N sc (.Call (.Name x p) (a :: es) [] pos) (eCall g ga) := de_callT hc (L.free_ h m) hv hst hss ha (gOk_g h).2.2 (gOk_g h).2.1
theorem f_bB {id : String} {g : List D → Option Cell} (hc : CallFS (.builtin id) g) (hv : bootBuiltins x = some (.builtin id)) (L : Low fa cs W) (m : Fx.free x ∈ fa) (h : gOk sc x = true) (hst : notStar a = true) (hss : es.all notStar = true) (ha : DA W N sc (a :: es) ga) :
    DF W N sc (.Call (.Name x p) (a :: es) [] pos) (cCall g ga) := df_callB hc (L.free_ h m) hv hst hss ha (gOk_g h).2.2 (gOk_g h).2.1
theorem f_bT {T : String} {g : List D → Option Cell} (hc : CallFS (.type T) g) (hv : bootBuiltins x = some (.type T)) (L : Low fa cs W) (m : Fx.free x ∈ fa) (h : gOk sc x = true) (hst : notStar a = true) (hss : es.all notStar = true) (ha : DA W N sc (a :: es) ga) :
    DF W N sc (.Call (.Name x p) (a :: es) [] pos) (cCall g ga) := df_callT hc (L.free_ h m) hv hst hss ha (gOk_g h).2.2 (gOk_g h).2.1
theorem e_f {f : FSem} (hf : FnHas W x f) (g : gOk sc x = true) (hst : notStar a = true) (hss : es.all notStar = true) (ha : DA W N sc (a :: es) ga) : DE W N sc (.Call (.Name x p) (a :: es) [] pos) (eFn f ga) :=
  de_fn hf (gOk_g g).1 hst hss ha (gOk_g g).2.1
theorem e_f0 {f : FSem} (hf : FnHas W x f) (g : gOk sc x = true) : DE W N sc (.Call (.Name x p) [] [] pos) (eFn f aNil) := de_fn0 hf (gOk_g g).1 (gOk_g g).2.1
theorem e_m {f : FSem} (hf : MkHas W x f) (g : gOk sc x = true) (hst : notStar a = true) (hss : es.all notStar = true) (ha : DA W N sc (a :: es) ga) : DE W N sc (.Call (.Name x p) (a :: es) [] pos) (eMake x f ga) :=
  de_make hf (gOk_g g).1 hst hss ha (gOk_g g).2.1
theorem e_m0 {f : FSem} (hf : MkHas W x f) (g : gOk sc x = true) : DE W N sc (.Call (.Name x p) [] [] pos) (eMake x f aNil) := de_make0 hf (gOk_g g).1 (gOk_g g).2.1
theorem ty_b {T : String} (hv : bootBuiltins x = some (.type T)) (L : Low fa cs W) (m : Fx.free x ∈ fa) (h : gOk sc x = true) : TyName W sc (.Name x p) (.bt T) := ⟨x, p, rfl, (gOk_g h).1, (gOk_g h).2.2, (gOk_g h).2.1, L.free m, hv⟩
theorem ty_c (L : Low fa cs W) (m : Fx.cls x ∈ fa) (h : gOk sc x = true) (hc : cs.contains x = true) : TyName W sc (.Name x p) (.cl x) := ⟨x, p, rfl, (gOk_g h).1, (gOk_g h).2.2, (gOk_g h).2.1, _, L.is_ hc, (L.cls m).2⟩
theorem e_isi {t : Ty} (L : Low fa cs W) (m : Fx.free "isinstance" ∈ fa) (g : gOk sc "isinstance" = true) (hst : notStar a = true) (ha : DE W N sc a f1) (hb : TyName W sc b t) : DE W N sc (.Call (.Name "isinstance" p) [a, b] [] pos) (eIsi (kitT fa) (icT fa) [t] f1) :=
  de_isi L.kit (L.free_ g m) hst ha hb
theorem e_isiT {ts : List Ty} {j : Nat} (L : Low fa cs W) (m : Fx.free "isinstance" ∈ fa) (g : gOk sc "isinstance" = true) (hst : notStar a = true) (ha : DE W N sc a f1) (hb : TyNames W sc es ts) (hl : ts.length < 100) : DE W N sc (.Call (.Name "isinstance" p) [a, .Tuple es j p2] [] pos) (eIsi (kitT fa) (icT fa) ts f1) :=
  de_isiT L.kit (L.free_ g m) hst ha hb hl
theorem i_r1 {tg : Expr} (L : Low fa cs W) (m : Fx.free "range" ∈ fa) (g : gOk sc "range" = true) (hst : notStar a = true) (ha : DE W N sc a f1) : DI W N sc tg (.Call (.Name "range" p) [a] [] pos) (iRange1 f1) := di_range1 (L.free_ g m) hst ha
theorem i_r2 {tg : Expr} (L : Low fa cs W) (m : Fx.free "range" ∈ fa) (g : gOk sc "range" = true) (hst : notStar a = true) (hst2 : notStar b = true) (ha : DE W N sc a f1) (hb : DE W N sc b f2) : DI W N sc tg (.Call (.Name "range" p) [a, b] [] pos) (iRange2 f1 f2) := di_range2 (L.free_ g m) hst hst2 ha hb
theorem i_en {tpos : Pos} {elts : List Expr} {kk : Nat} (L : Low fa cs W) (m : Fx.free "enumerate" ∈ fa) (g : gOk sc "enumerate" = true) (hst : notStar a = true) (ha : DE W N sc a f1) : DI W N sc (.Tuple elts kk tpos) (.Call (.Name "enumerate" p) [a] [] pos) (iEnum f1) := di_enum (L.free_ g m) hst ha
theorem i_z {tpos : Pos} {elts : List Expr} {kk : Nat} (L : Low fa cs W) (m : Fx.free "zip" ∈ fa) (g : gOk sc "zip" = true) (hst : notStar a = true) (hst2 : notStar b = true) (ha : DE W N sc a f1) (hb : DE W N sc b f2) : DI W N sc (.Tuple elts kk tpos) (.Call (.Name "zip" p) [a, b] [] pos) (iZip f1 f2) := di_zip (L.free_ g m) hst hst2 ha hb
theorem g_v (h : sOk N sc i x = true) : DG W N sc (.Name x pos) (gVar i) := dg_var (sOk_s h).1 (sOk_s h).2.1 (sOk_s h).2.2
theorem gc_v {vs : List Nat} (h : sOk N sc i x = true) (hv : i ∈ vs) : DGc W N sc vs (.Name x pos) (gVar i) := dgc_var (sOk_s h).1 (sOk_s h).2.1 (sOk_s h).2.2 hv
/-- x = e, e no comprehension -/
theorem s_v (h : sOk N sc i x = true) (hn : notComp b = true) (hb : DE W N sc b f2) : DS W N sc (.Assign [.Name x p] b pos) (sAsg f2 (gVar i)) := ds_asg rfl (.inr hn) (fun env _ => stores_noT rfl b env) (g_v h) hb
/-- x = [..], not on the swapped road -/
theorem ds_asgC {g : GF} (hs : notStar a = true) (hsw : pureOf (swapsWith b (some a) pos.line (envD sc.toScope)) = some false) (hst : ∀ env, env.scope = sc.toScope → swappedStores [a] b env = pure none) (hg : DG W N sc a g) (hb : DE W N sc b f2) : DS W N sc (.Assign [a] b pos) (sAsg f2 g) := by
  intro X gd
  refine PS.imp (ps_asg (hb X gd) (hg X gd) ?_ (hst X.env gd.eS) (assign_one hs _)) (tSv_asg (g := g))
  exact swaps_of hsw _ gd.eS
theorem s_vC (h : sOk N sc i x = true) (hsw : pureOf (swapsWith b (some (.Name x p)) pos.line (envD sc.toScope)) = some false) (hb : DE W N sc b f2) : DS W N sc (.Assign [.Name x p] b pos) (sAsg f2 (gVar i)) := ds_asgC rfl hsw (fun env _ => stores_noT rfl b env) (g_v h) hb
theorem s_lcT {elt tg iter : Expr} {ifs : List Expr} {scope : Scope} {own : List (Str × Nat)} {fi : IF} {g : GF} {cf : TF} {f : EF} {cpos : Pos} (h : lOk N sc i x = true)
    (hsw : pureOf (swapsWith (.ListComp elt [⟨tg, iter, ifs, 0⟩] scope cpos) (some (.Name x p)) pos.line (envD sc.toScope)) = some true)
    (ok : BlkOk N sc.toScope scope own) (hs : notSet iter = true) (hi : DI W N sc tg iter fi) (hg : DGc W N (blkS scope sc) (own.map (·.2)) tg g) (hc : DTs W N (blkS scope sc) ifs cf) (he : DE W N (blkS scope sc) elt f) :
    DS W N sc (.Assign [.Name x p] (.ListComp elt [⟨tg, iter, ifs, 0⟩] scope cpos) pos) (sAsg (eTree (cLc fi g cf f (own.map (·.2)))) (gVar i)) := (ds_lc (lOk_l h).1 (lOk_l h).2 hsw ok hs hi hg hc he).1
theorem s_lcL {elt tg iter : Expr} {ifs : List Expr} {scope : Scope} {own : List (Str × Nat)} {fi : IF} {g : GF} {cf : TF} {f : EF} {cpos : Pos} (h : lOk N sc i x = true)
    (hsw : pureOf (swapsWith (.ListComp elt [⟨tg, iter, ifs, 0⟩] scope cpos) (some (.Name x p)) pos.line (envD sc.toScope)) = some true)
    (ok : BlkOk N sc.toScope scope own) (hs : notSet iter = true) (hi : DI W N sc tg iter fi) (hg : DGc W N (blkS scope sc) (own.map (·.2)) tg g) (hc : DTs W N (blkS scope sc) ifs cf) (he : DE W N (blkS scope sc) elt f) :
    DS W N sc (.Assign [.Name x p] (.ListComp elt [⟨tg, iter, ifs, 0⟩] scope cpos) pos) (sAsg (eLive (cLc fi g cf f (own.map (·.2)))) (gVar i)) := (ds_lc (lOk_l h).1 (lOk_l h).2 hsw ok hs hi hg hc he).2
/-- other targets -/
theorem s_t {g : GF} (hs : notStar a = true) (hn : notName a = true) (hst : pureOf (swappedStores [a] b (envD sc.toScope)) = some none) (hg : DG W N sc a g) (hb : DE W N sc b f2) : DS W N sc (.Assign [a] b pos) (sAsg f2 g) := ds_asg hs (.inl hn) (stores_of hst) hg hb
theorem s_p2 {j k k2 : Nat} {y : Str} {px py pt pt2 : Pos} (h1 : lOk N sc i x = true) (h2 : lOk N sc j y = true) (hij : i ≠ j) (hw : pureOf (swappedStores [.Tuple [.Name x px, .Name y py] k pt] (.Tuple [a, b] k2 pt2) (envD sc.toScope)) = some (some [x, y])) (hga : DA W N sc [a, b] ga) :
    DS W N sc (.Assign [.Tuple [.Name x px, .Name y py] k pt] (.Tuple [a, b] k2 pt2) pos) (sPar i j ga) := ds_par (lOk_l h1).1 (lOk_l h2).1 hij (lOk_l h1).2 (lOk_l h2).2 hga hw
theorem s_p3 {j l k k2 : Nat} {y z : Str} {px py pz pt pt2 : Pos} (h1 : lOk N sc i x = true) (h2 : lOk N sc j y = true) (h3 : lOk N sc l z = true) (hij : i ≠ j) (hil : i ≠ l) (hjl : j ≠ l)
    (hw : pureOf (swappedStores [.Tuple [.Name x px, .Name y py, .Name z pz] k pt] (.Tuple [a, b, c] k2 pt2) (envD sc.toScope)) = some (some [x, y, z])) (hga : DA W N sc [a, b, c] ga) :
    DS W N sc (.Assign [.Tuple [.Name x px, .Name y py, .Name z pz] k pt] (.Tuple [a, b, c] k2 pt2) pos) (sPar3 i j l ga) := ds_par3 (lOk_l h1).1 (lOk_l h2).1 (lOk_l h3).1 hij hil hjl (lOk_l h1).2 (lOk_l h2).2 (lOk_l h3).2 hga hw
/-- x += .. -/
theorem s_aA (h : sOk N sc i x = true) (hb : DE W N sc b f2) : DS W N sc (.AugAssign (.Name x p) .Add b pos) (sAugAny i gIadd f2) := ds_aug (sOk_s h).1 (sOk_s h).2.1 (sOk_s h).2.2 ops_iadd rfl hb
theorem s_aN {op : Operator} {g : D → D → Option D} (ho : OpS (inplaceOp op) g) (h : sOk N sc i x = true) (hb : DE W N sc b f2) : DS W N sc (.AugAssign (.Name x p) op b pos) (sAug i g f2) := ds_augN (sOk_s h).1 (sOk_s h).2.1 (sOk_s h).2.2 ho hb
end
/-! ### C() where there is no __init__ but object's -/
def eNew0 (x : Str) : EF := fun _ M => some (.hd M.length, M ++ [.obj x []])
theorem run_make0 {X : Cx} {C : Addr} {pins : List (Addr × Obj)} {σ : L2.St} {H : Hp} {s : Shared} {Q : VK} (hm : PySem.W.makesIn X.K C = true) (hi : PySem.W.findIn X.K (.ref C) "__init__" = some (some (.builtin "object.__init__"))) (I : Inv X pins σ H s)
    (h : ∀ x dx, H x = none → H dx = none → dx ≠ x → Q (.ref x) (upd (upd H dx (.own x)) x (.ins C dx []))) : wpAny (model X.prog X.w) X.A (call (.ref C) []) (EP X pins σ Q) X.xe s := by
  have hq := h (s.heap.objs.size + 1) s.heap.objs.size (I.hok.fresh (Nat.le_succ _)) (I.hok.fresh (Nat.le_refl _)) (Nat.ne_of_lt (Nat.lt_succ_self _))
  have I2 := Inv.made (C := C) I
  have Y := PySem.W.makes_of (M := model X.prog X.w) I.kIn hm
  refine wpAny_call (make_map0 I.kIn hm hi (fun self => PySem.W.Looks.of_pure (PySem.W.oi_bind self)) ?_)
  obtain ⟨hh, g, d, t, os⟩ := s
  have hx : ((hh.push PySem.W.emptyDict).push (PySem.W.instObj C hh.objs.size)).get? (hh.objs.size + 1) = some (PySem.W.instObj C hh.objs.size) := by
    have := Heap.get?_push_size (hh.push PySem.W.emptyDict) (o := PySem.W.instObj C hh.objs.size) rfl
    rwa [Heap.size_push] at this
  have t1 : PySem.W.Looks (model X.prog X.w) ((hh.push PySem.W.emptyDict).push (PySem.W.instObj C hh.objs.size)) (typeOf (.ref (hh.objs.size + 1))) (.ref C) := (PySem.W.Looks.ld hx).andThen .now
  have t2 : PySem.W.Looks (model X.prog X.w) ((hh.push PySem.W.emptyDict).push (PySem.W.instObj C hh.objs.size)) (isInstance (.ref (hh.objs.size + 1)) (.type "object")) true := t1.andThen (Y.top.keeps fun b o e => Heap.get?_push_of_some _ (Heap.get?_push_of_some _ e))
  refine codeAny_call_builtin PySem.W.oi_plain PySem.W.entry_oi (@PySem.W.check_slot (model X.prog X.w) _ _ _ "object.__init__" "object" "__init__" (.ref (hh.objs.size + 1)) [] [] _ PySem.W.oi_kind PySem.W.oi_split t2 (PySem.W.oi_args (.ref (hh.objs.size + 1))) ?_)
  rw [PySem.W.oi_run]
  exact wpAny_pure (And.intro rfl ⟨.ref (hh.objs.size + 1), _, I2, rfl, hq⟩)
theorem e_n0 {fa : List Fx} {cs : List Str} {W : Wd} {N : List Str} {sc : Scp} {pos p : Pos} {x : Str} (L : Low fa cs W) (m : Fx.mk0 x ∈ fa) (m2 : Fx.cls x ∈ fa) (g : gOk sc x = true) (hc : cs.contains x = true) : DE W N sc (.Call (.Name x p) [] [] pos) (eNew0 x) := by
  intro X gd
  obtain ⟨q1, q2⟩ := Bool.and_eq_true_iff.mp (show (PySem.W.makesIn W.K (He.ga W.K x) && (He.eqO (PySem.W.findIn W.K (.ref (He.ga W.K x)) "__init__") (some (some (.builtin "object.__init__"))) && PySem.W.keepIn W.K (.ref (He.ga W.K x)))) = true from L.fact _ m)
  obtain ⟨q2, q3⟩ := Bool.and_eq_true_iff.mp q2
  refine ⟨fun pins s σ H Q I h => ?_⟩
  obtain ⟨env, M, s', M', F, κ, e, t, er, k⟩ := h
  simp only [eNew0, Option.some.injEq, Prod.mk.injEq] at e
  obtain ⟨rfl, rfl⟩ := e
  refine wpAny_Call_Name_kw (ld_glob I (gd.gl (gOk_g g).1) (by rw [gd.mg]; exact (L.cls m2).2) ?_ (gOk_g g).2.1)
  refine PySem.W.callWith_K0 (first := []) I.kIn (by rw [gd.K]; exact q3) ?_
  refine run_make0 (by rw [gd.K]; exact q1) (by rw [gd.K]; exact He.eqO_ok q2) I fun y dx hy hdx hne => ?_
  have n : New F H F (upd (upd H dx (.own y)) y (.ins (He.ga W.K x) dx [])) := (New.oneH t.sub hdx).trans (New.oneH (t.sub.transS (Sub.upd hdx)) (by rw [upd_ne hne.symm]; exact hy))
  have t2 : Stt W.K W.cA F _ (κ ++ [y]) (M ++ [.obj x []]) := t.push hy n (c := .obj x []) ⟨t.sub.none hy, _, dx, [], L.is_ hc, upd_same, rfl, .nil, by simp⟩ (fun d z => by cases z)
  exact k F (κ ++ [y]) _ _ ⟨.refl _, [y], rfl⟩ t2 ⟨y, by rw [← t.len]; simp, rfl⟩
end G
/-! Joining. -/
namespace G
open PySem L2
def clsT (fa : List Fx) (c : Str) : Bool := fa.any fun x => match x with
  | .cls c' => decide (c = c')
  | _ => false
theorem cls_all {fa : List Fx} {fn : List He.DefD} {cs : List Str} {K : PySem.W.Frag} (c : SaysX fa fn K) (h : cs.all (clsT fa) = true) : ∀ x C, cAof K cs x = some C → Cls K C := fun x C e => by
  unfold cAof at e
  split at e
  rotate_left
  · cases e
  rename_i hx
  cases e
  have h1 := List.all_eq_true.mp h x (by simpa using hx)
  obtain ⟨f, hf, q⟩ := List.any_eq_true.mp h1
  cases f with
  | cls c' =>
    simp only [decide_eq_true_eq] at q
    subst q
    exact He.cls_ok (Bool.and_eq_true_iff.mp (show ((He.Fa.cls x).ok K && (He.Fa.glo x).ok K) = true from c.fact hf)).1
  | _ => cases q
/-- the place of the walk -/
def mkW {fa : List Fx} {fn : List He.DefD} {cs : List Str} {K : PySem.W.Frag} (c : SaysX fa fn K) (h : cs.all (clsT fa) = true) (P : Program) (w : World) (mg : Str → Option Value) (base : Heap) : Wd := ⟨P, w, K, mg, base, cAof K cs, 0, cls_all c h⟩
theorem mkW_low {fa : List Fx} {fn : List He.DefD} {cs : List Str} {K : PySem.W.Frag} (c : SaysX fa fn K) (h : cs.all (clsT fa) = true) (P : Program) (w : World) {mg : Str → Option Value} {hp : Heap} (base : Heap) (X : K.In hp) (G : hp.Ns mainGlobals mg) : Low fa cs (mkW c h P w mg base) :=
  ⟨fun f hf => c.fact hf, rfl, hp, X, G⟩
end G
/-! Plain reckoning: each meaning unfolded, for simp. -/
namespace G
open PySem L2
section
variable {env : Ev} {M : Ms} {fa fb fc : EF} {ga : AF} {f g : SF} {c t u : TF}
@[simp] theorem r_eVar (i : Nat) : eVar i env M = match env[i]? with
  | some (some s) => some (s, M)
  | _ => none := id rfl
@[simp] theorem r_eCst (d : D) : eCst d env M = some (.d d, M) := id rfl
@[simp] theorem r_eBin (g : D → D → Option D) : eBin g fa fb env M = match fa env M with
  | some (a, M1) => match fb env M1 with
    | some (b, M2) => match view M2 a with
      | some x => match view M2 b with
        | some y => match g x y with
          | some r => some (.d r, M2)
          | none => none
        | none => none
      | none => none
    | none => none
  | none => none := id rfl
@[simp] theorem r_eUn (g : D → Option D) : eUn g fa env M = match fa env M with
  | some (a, M1) => match view M1 a with
    | some x => match g x with
      | some r => some (.d r, M1)
      | none => none
    | none => none
  | none => none := id rfl
@[simp] theorem r_eCall (g : List D → Option D) : eCall g ga env M = match ga env M with
  | some (ss, M1) => match views M1 ss with
    | some xs => match g xs with
      | some r => some (.d r, M1)
      | none => none
    | none => none
  | none => none := id rfl
@[simp] theorem r_cCall (g : List D → Option Cell) : cCall g ga env M = match ga env M with
  | some (ss, M1) => match views M1 ss with
    | some xs => match g xs with
      | some r => some (r, M1)
      | none => none
    | none => none
  | none => none := id rfl
@[simp] theorem r_eTest : eTest fa env M = match fa env M with
  | some (.d (.bl b), M1) => some (b, M1)
  | _ => none := id rfl
@[simp] theorem r_tAnd : tAnd_ t u env M = match t env M with
  | some (true, M1) => u env M1
  | r => r := id rfl
@[simp] theorem r_tOr : tOr_ t u env M = match t env M with
  | some (false, M1) => u env M1
  | r => r := id rfl
@[simp] theorem r_tNot : tNot_ t env M = match t env M with
  | some (b, M1) => some (!b, M1)
  | none => none := id rfl
@[simp] theorem r_eOf : eOf t env M = match t env M with
  | some (b, M1) => some (.d (.bl b), M1)
  | none => none := id rfl
@[simp] theorem r_eAnd : eAnd fa fb env M = match fa env M with
  | some (.d (.bl true), M1) => fb env M1
  | some (.d (.bl false), M1) => some (.d (.bl false), M1)
  | _ => none := id rfl
@[simp] theorem r_eOr : eOr fa fb env M = match fa env M with
  | some (.d (.bl true), M1) => some (.d (.bl true), M1)
  | some (.d (.bl false), M1) => fb env M1
  | _ => none := id rfl
@[simp] theorem r_eIf : eIf c fa fb env M = match c env M with
  | some (true, M1) => fa env M1
  | some (false, M1) => fb env M1
  | none => none := id rfl
@[simp] theorem r_aNil : aNil env M = some ([], M) := id rfl
@[simp] theorem r_aCons : aCons fa ga env M = match fa env M with
  | some (s, M1) => match ga env M1 with
    | some (ss, M2) => some (s :: ss, M2)
    | none => none
  | none => none := id rfl
@[simp] theorem r_aStar : aStar fa ga env M = match fa env M with
  | some (s, M1) => match view M1 s with
    | some d => match itemsOf d with
      | some xs => match ga env M1 with
        | some (ss, M2) => some (xs.map S.d ++ ss, M2)
        | none => none
      | none => none
    | none => none
  | none => none := id rfl
@[simp] theorem r_eTup : eTup ga env M = match ga env M with
  | some (ss, M1) => match frzL ss M1 with
    | some (ds, M2) => if ds.length ≤ sizeLine then some (.d (.tup ds), M2) else none
    | none => none
  | none => none := id rfl
@[simp] theorem r_eLst : eLst ga env M = match ga env M with
  | some (ss, M1) => match frzL ss M1 with
    | some (ds, M2) => if ds.length ≤ sizeLine then some (.d (.lst ds), M2) else none
    | none => none
  | none => none := id rfl
@[simp] theorem r_cLst : cLst ga env M = match ga env M with
  | some (ss, M1) => match frzL ss M1 with
    | some (ds, M2) => if ds.length ≤ sizeLine then some (.lst ds, M2) else none
    | none => none
  | none => none := id rfl
@[simp] theorem r_eAttr (x : Str) : eAttr x fa env M = match fa env M with
  | some (s, M1) => match view M1 s with
    | some (.obj _ gs) => match gs.lookup x with
      | some d => some (.d d, M1)
      | none => none
    | _ => none
  | none => none := id rfl
@[simp] theorem r_oNone : oNone env M = some (none, M) := id rfl
@[simp] theorem r_oSome : oSome fa env M = match fa env M with
  | some (s, M1) => match view M1 s with
    | some (.int i) => some (some i, M1)
    | _ => none
  | none => none := id rfl
@[simp] theorem r_eSlice (fl fh : OF) : eSlice fa fl fh env M = match fa env M with
  | some (s, M1) => match fl env M1 with
    | some (lo, M2) => match fh env M2 with
      | some (hi, M3) => match view M3 s with
        | some d => match dSlice d lo hi with
          | some r => some (.d r, M3)
          | none => none
        | none => none
      | none => none
    | none => none
  | none => none := id rfl
@[simp] theorem r_eFn (F : FSem) : eFn F ga env M = match ga env M with
  | some (ss, M1) => F ss M1
  | none => none := id rfl
@[simp] theorem r_eMake (x : Str) (F : FSem) : eMake x F ga env M = match ga env M with
  | some (ss, M1) => match F (.hd M1.length :: ss) (M1 ++ [.obj x []]) with
    | some (.d .non, M2) => some (.hd M1.length, M2)
    | _ => none
  | none => none := id rfl
@[simp] theorem r_eNew0 (x : Str) : eNew0 x env M = some (.hd M.length, M ++ [.obj x []]) := id rfl
@[simp] theorem r_eDrop : eDrop fa env M = match fa env M with
  | some (s, M1) => match frz M1 s with
    | some (d, M2) => if M.length ≤ M2.length then some (.d d, M2.take M.length) else none
    | none => none
  | none => none := id rfl
@[simp] theorem r_eMeth (mt : Str → Option FSem) (m : Str) : eMeth mt m fa ga env M = match fa env M with
  | some (s, M1) => match view M1 s with
    | some (.obj c gs) => match mt c with
      | some F => match gs.lookup m with
        | some _ => none
        | none => match ga env M1 with
          | some (ss, M2) => F (s :: ss) M2
          | none => none
      | none => none
    | _ => none
  | none => none := id rfl
@[simp] theorem r_sNext : sNext env M = some (.nx env M) := id rfl
@[simp] theorem r_sSeq : sSeq f g env M = match f env M with
  | some (.nx e1 M1) => g e1 M1
  | r => r := id rfl
@[simp] theorem r_sExpr : sExpr fa env M = match fa env M with
  | some (_, M1) => some (.nx env M1)
  | none => none := id rfl
@[simp] theorem r_sRet : sRet fa env M = match fa env M with
  | some (s, M1) => some (.rt s M1)
  | none => none := id rfl
@[simp] theorem r_sRetN : sRetN env M = some (.rt (.d .non) M) := id rfl
@[simp] theorem r_sIf : sIf c f g env M = match c env M with
  | some (true, M1) => f env M1
  | some (false, M1) => g env M1
  | none => none := id rfl
@[simp] theorem r_sBrk : sBrk env M = some (.bk env M) := id rfl
@[simp] theorem r_sCt : sCt env M = some (.ct env M) := id rfl
@[simp] theorem r_sNever : sNever env M = none := id rfl
@[simp] theorem r_gVar (i : Nat) (s : S) : gVar i s env M = if i < env.length then some (env.set i (some s), M) else none := id rfl
@[simp] theorem r_gsNil : gsNil [] env M = some (env, M) := id rfl
@[simp] theorem r_gsCons (F : GF) (Gs : GFs) (d : D) (ds : List D) : gsCons F Gs (d :: ds) env M = match F (.d d) env M with
  | some (e1, M1) => Gs ds e1 M1
  | none => none := id rfl
@[simp] theorem r_eTree (F : CF) : eTree F env M = match F env M with
  | some (c, M') => some (.d c.toD, M')
  | none => none := id rfl
@[simp] theorem r_eLive (F : CF) : eLive F env M = match F env M with
  | some (c, M') => some (.hd M'.length, M' ++ [c])
  | none => none := id rfl
@[simp] theorem r_cDct0 : cDct0 env M = some (.dct [], M) := id rfl
@[simp] theorem r_sAsg (F : GF) : sAsg fa F env M = match fa env M with
  | some (s, M1) => match F s env M1 with
    | some (e, M2) => some (.nx e M2)
    | none => none
  | none => none := id rfl
@[simp] theorem r_sPar (i j : Nat) : sPar i j ga env M = match ga env M with
  | some ([s, s'], M1) => if i < env.length ∧ j < env.length then some (.nx ((env.set i (some s)).set j (some s')) M1) else none
  | _ => none := id rfl
@[simp] theorem r_sPar3 (i j l : Nat) : sPar3 i j l ga env M = match ga env M with
  | some ([s, s', s''], M1) => if i < env.length ∧ j < env.length ∧ l < env.length then some (.nx (((env.set i (some s)).set j (some s')).set l (some s'')) M1) else none
  | _ => none := id rfl
@[simp] theorem r_sFor (fi : IF) (F : GF) : sFor fi F f env M = match fi env M with
  | some (ds, M1) => forD F f ds env M1
  | none => none := id rfl
@[simp] theorem r_tTrue : tTrue env M = some (true, M) := id rfl
@[simp] theorem r_iSeq : iSeq fa env M = match fa env M with
  | some (s, M1) => match frz M1 s with
    | some (d, M2) => match walkOf d with
      | some ds => some (ds, M2)
      | none => none
    | none => none
  | none => none := id rfl
@[simp] theorem r_iRange1 : iRange1 fa env M = match fa env M with
  | some (s, M1) => match view M1 s with
    | some (.int n) => if -(2 ^ 62) ≤ n ∧ n < 2 ^ 62 then some (rangeD 0 n.toNat, M1) else none
    | _ => none
  | none => none := id rfl
@[simp] theorem r_iRange2 : iRange2 fa fb env M = match fa env M with
  | some (s, M1) => match fb env M1 with
    | some (s', M2) => match view M2 s with
      | some (.int i) => match view M2 s' with
        | some (.int j) => if -(2 ^ 62) ≤ i ∧ i < 2 ^ 62 ∧ -(2 ^ 62) ≤ j ∧ j < 2 ^ 62 then some (rangeD i (j - i).toNat, M2) else none
        | _ => none
      | _ => none
    | none => none
  | none => none := id rfl
@[simp] theorem r_iEnum : iEnum fa env M = match fa env M with
  | some (s, M1) => match frz M1 s with
    | some (.lst ds, M2) => some (enumD ds, M2)
    | _ => none
  | none => none := id rfl
@[simp] theorem r_view_d (x : D) : view M (.d x) = some x := id rfl
@[simp] theorem r_view_h (k : Nat) : view M (.hd k) = M[k]?.map Cell.toD := id rfl
@[simp] theorem r_frz_d (x : D) : frz M (.d x) = some (x, M) := id rfl
@[simp] theorem r_frzL_nil : frzL [] M = some ([], M) := id rfl
@[simp] theorem r_frzL_cons (s : S) (r : List S) : frzL (s :: r) M = match frz M s with
    | some (d, M1) => match frzL r M1 with
      | some (ds, M2) => some (d :: ds, M2)
      | none => none
    | none => none := id rfl
@[simp] theorem r_frzL_map : ∀ (ds : List D), frzL (ds.map S.d) M = some (ds, M)
  | [] => rfl
  | d :: ds => by rw [List.map_cons, r_frzL_cons, r_frz_d]; simp only [r_frzL_map ds]
@[simp] theorem r_views_nil : views M [] = some [] := id rfl
@[simp] theorem r_views_cons (s : S) (r : List S) : views M (s :: r) = match view M s with
    | some d => match views M r with
      | some ds => some (d :: ds)
      | none => none
    | none => none := id rfl
@[simp] theorem r_fnD (np nN : Nat) (body : SF) (ss : List S) : fnD np nN body ss M = if ss.length = np then match body (env0 nN ss) M with
    | some (.rt s M1) => match frz M1 s with
      | some (d, M2) => if M.length ≤ M2.length then some (.d d, M2.take M.length) else none
      | none => none
    | some (.nx _ M1) => if M.length ≤ M1.length then some (.d .non, M1.take M.length) else none
    | _ => none
  else none := id rfl
@[simp] theorem r_env0 (nN : Nat) (ss : List S) : env0 nN ss = ss.map some ++ List.replicate (nN - ss.length) none := id rfl
@[simp] theorem r_gTupD (n : Nat) (Gs : GFs) (s : S) : gTupD n Gs s env M = match view M s with
  | some (.tup ds) => if ds.length = n then Gs ds env M else none
  | _ => none := by
  unfold gTupD
  rfl
@[simp] theorem r_eIsi (kit : Ty → Ty → Option Bool) (ic : Str → Bool) (ts : List Ty) : eIsi kit ic ts fa env M = match fa env M with
  | some (s, M1) => match view M1 s with
    | some d => match isiD kit ic d ts with
      | some b => some (.d (.bl b), M1)
      | none => none
    | none => none
  | none => none := id rfl
@[simp] theorem r_eTru (mt : Str → Option FSem) (pt : Str → Bool) : eTru mt pt fa env M = match fa env M with
  | some (s, M1) => truS mt pt s M1
  | none => none := id rfl
@[simp] theorem r_truS_bl (mt : Str → Option FSem) (pt : Str → Bool) (b : Bool) : truS mt pt (.d (.bl b)) M = some (b, M) := id rfl
@[simp] theorem r_truS_int (mt : Str → Option FSem) (pt : Str → Bool) (b : Int) : truS mt pt (.d (.int b)) M = some (b != 0, M) := id rfl
@[simp] theorem r_truS_obj (mt : Str → Option FSem) (pt : Str → Bool) (c : Str) (gs : List (Str × D)) : truS mt pt (.d (.obj c gs)) M = match mt c with
    | some F => match F [.d (.obj c gs)] M with
      | some (.d (.bl b), M2) => some (b, M2)
      | _ => none
    | none => if pt c then some (true, M) else none := id rfl
@[simp] theorem r_eNotT (mt : Str → Option FSem) (pt : Str → Bool) : eNotT mt pt fa = eOf (tNot_ (eTru mt pt fa)) := id rfl
@[simp] theorem r_isiD (kit : Ty → Ty → Option Bool) (ic : Str → Bool) (d : D) (ts : List Ty) : isiD kit ic d ts = if icD ic d then kitAll kit (tyD d) ts else none := id rfl
@[simp] theorem r_kitN (kit : Ty → Ty → Option Bool) (t : Ty) : kitAll kit t [] = some false := id rfl
@[simp] theorem r_kitC (kit : Ty → Ty → Option Bool) (t u : Ty) (ts : List Ty) : kitAll kit t (u :: ts) = match kit t u with
    | some true => some true
    | some false => kitAll kit t ts
    | none => none := id rfl
@[simp] theorem r_gI (g : Int → Int → D) (i j : Int) : gI g (.int i) (.int j) = some (g i j) := id rfl
@[simp] theorem r_gAdd (i j : Int) : gAdd (.int i) (.int j) = some (.int (i + j)) := id rfl
@[simp] theorem r_gMul (i j : Int) : gMul (.int i) (.int j) = if mulOk i j then some (.int (i * j)) else none := id rfl
@[simp] theorem r_gDiv (i j : Int) : gDiv (.int i) (.int j) = if 0 < j ∧ j < 1073741824 then some (.int (i / j)) else none := id rfl
@[simp] theorem r_gMod (i j : Int) : gMod (.int i) (.int j) = if 0 < j then some (.int (i % j)) else none := id rfl
@[simp] theorem r_gPow (i j : Int) : gPow (.int i) (.int j) = if 0 ≤ j ∧ j ≤ 1000000 ∧ i.natAbs < 2 ^ 64 then some (.int (i ^ j.toNat)) else none := id rfl
@[simp] theorem r_gNeg (i : Int) : gNeg (.int i) = some (.int (-i)) := id rfl
@[simp] theorem r_gInt (i : Int) : gInt [.int i] = some (.int i) := id rfl
@[simp] theorem r_gTup1 (ds : List D) : gTuple [.tup ds] = some (.tup ds) := id rfl
@[simp] theorem r_gTup2 (ds : List D) : gTuple [.lst ds] = some (.tup ds) := id rfl
@[simp] theorem r_gLen1 (ds : List D) : gLen [.tup ds] = some (.int ds.length) := id rfl
@[simp] theorem r_gLen2 (ds : List D) : gLen [.lst ds] = some (.int ds.length) := id rfl
@[simp] theorem r_gLen3 (ds : List Int) : gLen [.scr ds] = some (.int ds.length) := id rfl
@[simp] theorem r_gMax2 (i j : Int) : gMax [.int i, .int j] = some (.int (if j > i then j else i)) := id rfl
@[simp] theorem r_gMin2 (i j : Int) : gMin [.int i, .int j] = some (.int (if j < i then j else i)) := id rfl
@[simp] theorem r_gEqI (i j : Int) : gEq (.int i) (.int j) = some (.bl (decide (i = j))) := id rfl
@[simp] theorem r_gNeI (i j : Int) : gNe (.int i) (.int j) = some (.bl (!decide (i = j))) := id rfl
@[simp] theorem r_gEqS (i j : Str) : gEq (.str i) (.str j) = some (.bl (decide (i = j))) := id rfl
@[simp] theorem r_gNeS (i j : Str) : gNe (.str i) (.str j) = some (.bl (!decide (i = j))) := id rfl
@[simp] theorem r_gIs (x : D) : gIs x .non = some (.bl (isN x)) := id rfl
@[simp] theorem r_gIsNot (x : D) : gIsNot x .non = some (.bl (!isN x)) := id rfl
@[simp] theorem r_idxT (ds : List D) (i : Int) : dIdx (.tup ds) (.int i) = atI ds i := id rfl
@[simp] theorem r_idxL (ds : List D) (i : Int) : dIdx (.lst ds) (.int i) = atI ds i := id rfl
end
theorem mulOk_l {i j : Int} (h1 : -(2 ^ 64) < i) (h2 : i < 2 ^ 64) : mulOk i j = true := by unfold mulOk; simp; omega
theorem mulOk_r {i j : Int} (h1 : -(2 ^ 64) < j) (h2 : j < 2 ^ 64) : mulOk i j = true := by unfold mulOk; simp; omega
/-- a chain of two tests on numbers -/
theorem r_chainI {env : Ev} {M : Ms} {fa fb fc : EF} {g g' : Int → Int → Bool} {a b c : Int} (ha : fa env M = some (.d (.int a), M)) (hb : fb env M = some (.d (.int b), M)) (hc : fc env M = some (.d (.int c), M)) :
    eChain (gI fun i j => .bl (g i j)) (gI fun i j => .bl (g' i j)) fa fb fc env M = some (.d (.bl (g a b && g' b c)), M) := by
  unfold eChain
  simp only [ha, hb, r_view_d, r_gI]
  cases g a b <;> simp [hc]
/-- comprehensions: one turn by one -/
theorem lcD_eq {g : GF} {c : TF} {f : EF} {vs : List Nat} {env : Ev} {M : Ms} (p : D → Bool) (h : D → D) : ∀ (ds acc : List D), (∀ d ∈ ds, ∀ acc : List D, ∃ e1, g (.d d) (wipeE env vs) (M ++ [.lst acc]) = some (e1, M ++ [.lst acc]) ∧ c e1 (M ++ [.lst acc]) = some (p d, M ++ [.lst acc]) ∧ (p d = true → f e1 (M ++ [.lst acc]) = some (.d (h d), M ++ [.lst acc]))) →
    acc.length + ds.length ≤ sizeLine → lcD g c f vs M.length ds env (M ++ [.lst acc]) = some (M ++ [.lst (acc ++ (ds.filter p).map h)])
  | [], acc, _, _ => by simp [lcD]
  | d :: ds, acc, hs, hl => by
    obtain ⟨e1, h1, h2, h3⟩ := hs d (by simp) acc
    unfold lcD
    simp only [h1, h2]
    have hl' : acc.length + (ds.length + 1) ≤ sizeLine := hl
    cases hp : p d with
    | false =>
      simp only [List.filter_cons, hp]
      exact lcD_eq p h ds acc (fun x hx => hs x (List.mem_cons_of_mem _ hx)) (by omega)
    | true =>
      have ih := lcD_eq p h ds (acc ++ [h d]) (fun x hx => hs x (List.mem_cons_of_mem _ hx)) (by simp; omega)
      simp only [h3 hp, r_frz_d, List.getElem?_append_right (Nat.le_refl _), Nat.sub_self, List.getElem?_cons_zero, List.filter_cons, hp, if_true, List.map_cons]
      rw [if_pos (by omega), List.set_append_right _ _ (Nat.le_refl _), Nat.sub_self, List.set_cons_zero, ih]
      simp
theorem cLc_eq {fi : IF} {g : GF} {c : TF} {f : EF} {vs : List Nat} {env : Ev} {M M1 : Ms} {ds : List D} (p : D → Bool) (h : D → D) (hi : fi env M = some (ds, M1)) (hs : ∀ d ∈ ds, ∀ acc : List D, ∃ e1, g (.d d) (wipeE env vs) (M1 ++ [.lst acc]) = some (e1, M1 ++ [.lst acc]) ∧ c e1 (M1 ++ [.lst acc]) = some (p d, M1 ++ [.lst acc]) ∧ (p d = true → f e1 (M1 ++ [.lst acc]) = some (.d (h d), M1 ++ [.lst acc])))
    (hl : ds.length ≤ sizeLine) : cLc fi g c f vs env M = some (.lst ((ds.filter p).map h), M1) := by
  unfold cLc
  simp only [hi]
  rw [lcD_eq p h ds [] hs (by simpa using hl)]
  simp
/-- for: a state that goes on -/
theorem forD_inv {g : GF} {body : SF} {σ : Type} (P : σ → Ev → Ms → Prop) (step : σ → D → σ) : ∀ (ds : List D) (x : σ) (env : Ev) (M : Ms), P x env M → (∀ x env M d, d ∈ ds → P x env M → ∃ e1 M1 e2 M2, g (.d d) env M = some (e1, M1) ∧ (body e1 M1 = some (.nx e2 M2) ∨ body e1 M1 = some (.ct e2 M2)) ∧ P (step x d) e2 M2) →
    ∃ e2 M2, forD g body ds env M = some (.nx e2 M2) ∧ P (ds.foldl step x) e2 M2
  | [], x, env, M, h, _ => ⟨env, M, rfl, h⟩
  | d :: ds, x, env, M, h, hs => by
    obtain ⟨e1, M1, e2, M2, h1, h2, h3⟩ := hs x env M d (by simp) h
    obtain ⟨e3, M3, k1, k2⟩ := forD_inv P step ds (step x d) e2 M2 h3 fun x env M d hd => hs x env M d (List.mem_cons_of_mem _ hd)
    refine ⟨e3, M3, ?_, k2⟩
    unfold forD
    rcases h2 with h2 | h2 <;> simp only [h1, h2, k1]
end G
/-! Loops and draws, for plain reckoning. -/
namespace G
open PySem L2
theorem rangeD_zero (lo : Int) : rangeD lo 0 = [] := rfl
theorem rangeD_succ (lo : Int) (n : Nat) : rangeD lo (n + 1) = rangeD lo n ++ [.int (lo + n)] := by
  unfold rangeD
  rw [List.range_succ, List.map_append]
  rfl
theorem rangeD_get {lo : Int} {n i : Nat} (h : i < n) : (rangeD lo n)[i]? = some (.int (lo + i)) := by
  unfold rangeD
  rw [List.getElem?_map, List.getElem?_range h]
  rfl
/-- a loop: P i before turn i -/
theorem for_ix {g : GF} {body : SF} : ∀ (ds : List D) (P : Nat → Ev → Ms → Prop) (env : Ev) (M : Ms), P 0 env M → (∀ i d env M, ds[i]? = some d → P i env M → ∃ e1 M1 e2 M2, g (.d d) env M = some (e1, M1) ∧ (body e1 M1 = some (.nx e2 M2) ∨ body e1 M1 = some (.ct e2 M2)) ∧ P (i + 1) e2 M2) →
    ∃ e2 M2, forD g body ds env M = some (.nx e2 M2) ∧ P ds.length e2 M2
  | [], P, env, M, h0, _ => ⟨env, M, rfl, h0⟩
  | d :: ds, P, env, M, h0, hs => by
    obtain ⟨e1, M1, e2, M2, k1, k2, k3⟩ := hs 0 d env M rfl h0
    obtain ⟨e3, M3, h1, h2⟩ := for_ix ds (fun i => P (i + 1)) e2 M2 k3 fun i x env M hi h => hs (i + 1) x env M (by simpa using hi) h
    refine ⟨e3, M3, ?_, h2⟩
    unfold forD
    rcases k2 with k2 | k2 <;> simp only [k1, k2, h1]
/-- .. that ends by a return at turn k -/
theorem for_ret {g : GF} {body : SF} {s : S} {Mr : Ms} : ∀ (ds : List D) (k : Nat) (P : Nat → Ev → Ms → Prop) (env : Ev) (M : Ms), k < ds.length → P 0 env M → (∀ i d env M, i < k → ds[i]? = some d → P i env M → ∃ e1 M1 e2 M2, g (.d d) env M = some (e1, M1) ∧ (body e1 M1 = some (.nx e2 M2) ∨ body e1 M1 = some (.ct e2 M2)) ∧ P (i + 1) e2 M2) →
    (∀ env M, P k env M → ∃ d e1 M1, ds[k]? = some d ∧ g (.d d) env M = some (e1, M1) ∧ body e1 M1 = some (.rt s Mr)) → forD g body ds env M = some (.rt s Mr)
  | [], k, P, env, M, hk, _, _, _ => by simp at hk
  | d :: ds, 0, P, env, M, hk, h0, hs, hr => by
    obtain ⟨d', e1, M1, h1, h2, h3⟩ := hr env M h0
    simp at h1
    subst h1
    unfold forD
    simp only [h2, h3]
  | d :: ds, k + 1, P, env, M, hk, h0, hs, hr => by
    obtain ⟨e1, M1, e2, M2, k1, k2, k3⟩ := hs 0 d env M (by omega) rfl h0
    have ih := for_ret ds k (fun i => P (i + 1)) e2 M2 (by simpa using hk) k3 (fun i x env M hi hx h => hs (i + 1) x env M (by omega) (by simpa using hx) h) fun env M h => by
      obtain ⟨d', e1, M1, h1, h2, h3⟩ := hr env M h
      exact ⟨d', e1, M1, by simpa using h1, h2, h3⟩
    unfold forD
    rcases k2 with k2 | k2 <;> simp only [k1, k2, ih]
/-- a loop over range: P i before turn i -/
theorem for_range {g : GF} {body : SF} (P : Nat → Ev → Ms → Prop) (lo : Int) {env : Ev} {M : Ms} (n : Nat) (h0 : P 0 env M) (hs : ∀ i (x : Int) env M, x = lo + (i : Nat) → i < n → P i env M → ∃ e1 M1 e2 M2, g (.d (.int x)) env M = some (e1, M1) ∧ (body e1 M1 = some (.nx e2 M2) ∨ body e1 M1 = some (.ct e2 M2)) ∧ P (i + 1) e2 M2) :
    ∃ e2 M2, forD g body (rangeD lo n) env M = some (.nx e2 M2) ∧ P n e2 M2 := by
  have hl : (rangeD lo n).length = n := by unfold rangeD; rw [List.length_map, List.length_range]
  obtain ⟨e2, M2, h1, h2⟩ := for_ix (g := g) (body := body) (rangeD lo n) P env M h0 fun i d env M hi h => by
    have hin : i < n := by
      obtain ⟨q, _⟩ := List.getElem?_eq_some_iff.mp hi
      omega
    rw [rangeD_get hin] at hi
    cases hi
    exact hs i _ env M rfl hin h
  rw [hl] at h2
  exact ⟨e2, M2, h1, h2⟩
theorem for_rangeR {g : GF} {body : SF} {s : S} {Mr : Ms} (P : Nat → Ev → Ms → Prop) (lo : Int) {env : Ev} {M : Ms} (n k : Nat) (hk : k < n) (h0 : P 0 env M) (hs : ∀ i (x : Int) env M, x = lo + (i : Nat) → i < k → P i env M → ∃ e1 M1 e2 M2, g (.d (.int x)) env M = some (e1, M1) ∧ (body e1 M1 = some (.nx e2 M2) ∨ body e1 M1 = some (.ct e2 M2)) ∧ P (i + 1) e2 M2)
    (hr : ∀ (x : Int) env M, x = lo + (k : Nat) → P k env M → ∃ e1 M1, g (.d (.int x)) env M = some (e1, M1) ∧ body e1 M1 = some (.rt s Mr)) : forD g body (rangeD lo n) env M = some (.rt s Mr) := by
  refine for_ret (rangeD lo n) k P env M (by unfold rangeD; rw [List.length_map, List.length_range]; exact hk) h0 (fun i d env M hi hd h => ?_) fun env M h => ?_
  · rw [rangeD_get (by omega)] at hd
    cases hd
    exact hs i _ env M rfl hi h
  · obtain ⟨e1, M1, a, b⟩ := hr _ env M rfl h
    exact ⟨_, e1, M1, rangeD_get hk, a, b⟩
theorem scr_at {ns : List Int} {i : Int} (h0 : 0 ≤ i) (h1 : i < ns.length) : ∃ v : Int, dIdx (.scr ns) (.int i) = some (.int v) := by
  have hi : i.toNat < ns.length := by omega
  refine ⟨ns[i.toNat], ?_⟩
  show (atI ns i).map D.int = _
  unfold atI ixN
  rw [if_pos h0, if_pos h1]
  simp [List.getElem?_eq_getElem hi]
theorem ne_nil (ns : List Int) : gNe (.scr ns) (.lst []) = some (.bl (!ns.isEmpty)) := by
  have hd : ∀ ms : List Int, PyData.depthAll (ms.map PyData.int) ≤ 0 := fun ms => by
    induction ms with
    | nil => simp [PyData.depthAll]
    | cons m ms ih => simp only [List.map_cons, PyData.depthAll, PyData.depth]; omega
  have h1 : (PyData.list (ns.map PyData.int)).depth ≤ 64 := by simp only [PyData.depth]; have := hd ns; omega
  have h2 : (PyData.list []).depth ≤ 64 := by simp [PyData.depth, PyData.depthAll]
  have e1 : D.py (.scr ns) = some (.list (ns.map PyData.int)) := by unfold D.py; rfl
  have e2 : D.py (.lst []) = some (.list []) := by unfold D.py pys; rfl
  have e0 : eqS (.scr ns) (.lst []) = none := rfl
  unfold gNe eqD
  rw [e0]
  show (match eqP (.scr ns) (.lst []) with | some b => some (D.bl (!b)) | none => none) = _
  unfold eqP
  rw [e1, e2]
  simp only [h1, h2, and_self, if_true]
  cases ns <;> simp [PyData.eqv, PyData.eqvAll]
/-- a comprehension over things of any kind -/
theorem lcD_map {α : Type} {g : GF} {c : TF} {f : EF} {vs : List Nat} {env : Ev} {M : Ms} (din dout : α → D) (p : α → Bool) : ∀ (xs : List α) (acc : List D), (∀ x ∈ xs, ∀ acc : List D, ∃ e1, g (.d (din x)) (wipeE env vs) (M ++ [.lst acc]) = some (e1, M ++ [.lst acc]) ∧ c e1 (M ++ [.lst acc]) = some (p x, M ++ [.lst acc]) ∧ (p x = true → f e1 (M ++ [.lst acc]) = some (.d (dout x), M ++ [.lst acc]))) →
    acc.length + xs.length ≤ sizeLine → lcD g c f vs M.length (xs.map din) env (M ++ [.lst acc]) = some (M ++ [.lst (acc ++ (xs.filter p).map dout)])
  | [], acc, _, _ => by simp [lcD]
  | x :: xs, acc, hs, hl => by
    obtain ⟨e1, h1, h2, h3⟩ := hs x (by simp) acc
    rw [List.map_cons]
    unfold lcD
    simp only [h1, h2]
    have hl' : acc.length + (xs.length + 1) ≤ sizeLine := hl
    cases hp : p x with
    | false =>
      simp only [List.filter_cons, hp]
      exact lcD_map din dout p xs acc (fun y hy => hs y (List.mem_cons_of_mem _ hy)) (by omega)
    | true =>
      have ih := lcD_map din dout p xs (acc ++ [dout x]) (fun y hy => hs y (List.mem_cons_of_mem _ hy)) (by simp; omega)
      simp only [h3 hp, r_frz_d, List.getElem?_append_right (Nat.le_refl _), Nat.sub_self, List.getElem?_cons_zero, List.filter_cons, hp, if_true, List.map_cons]
      rw [if_pos (by omega), List.set_append_right _ _ (Nat.le_refl _), Nat.sub_self, List.set_cons_zero, ih]
      simp
theorem cLc_filter {α : Type} {fi : IF} {g : GF} {c : TF} {f : EF} {vs : List Nat} {env : Ev} {M M1 : Ms} (xs : List α) (din dout : α → D) (p : α → Bool) (hi : fi env M = some (xs.map din, M1))
    (hs : ∀ x ∈ xs, ∀ acc : List D, ∃ e1, g (.d (din x)) (wipeE env vs) (M1 ++ [.lst acc]) = some (e1, M1 ++ [.lst acc]) ∧ c e1 (M1 ++ [.lst acc]) = some (p x, M1 ++ [.lst acc]) ∧ (p x = true → f e1 (M1 ++ [.lst acc]) = some (.d (dout x), M1 ++ [.lst acc])))
    (hl : xs.length ≤ sizeLine) : cLc fi g c f vs env M = some (.lst ((xs.filter p).map dout), M1) := by
  unfold cLc
  simp only [hi]
  rw [lcD_map din dout p xs [] hs (by simpa using hl)]
  simp
theorem cLc_map {α : Type} {fi : IF} {g : GF} {f : EF} {vs : List Nat} {env : Ev} {M M1 : Ms} (xs : List α) (din dout : α → D) (hi : fi env M = some (xs.map din, M1))
    (hs : ∀ x ∈ xs, ∀ acc : List D, ∃ e1, g (.d (din x)) (wipeE env vs) (M1 ++ [.lst acc]) = some (e1, M1 ++ [.lst acc]) ∧ f e1 (M1 ++ [.lst acc]) = some (.d (dout x), M1 ++ [.lst acc]))
    (hl : xs.length ≤ sizeLine) : cLc fi g tTrue f vs env M = some (.lst (xs.map dout), M1) := by
  have := cLc_filter (c := tTrue) xs din dout (fun _ => true) hi (fun x hx acc => by
    obtain ⟨e1, h1, h2⟩ := hs x hx acc
    exact ⟨e1, h1, rfl, fun _ => h2⟩) hl
  rw [List.filter_eq_self.mpr (fun _ _ => rfl)] at this
  exact this
theorem r_gSum (ns : List Int) : gSum [.lst (ns.map D.int)] = some (.int ns.sum) := by
  unfold gSum gOfInts lstOf
  simp
@[simp] theorem r_frz_h (M : Ms) (k : Nat) : frz M (.hd k) = match M[k]? with
    | some c => some (c.toD, M.set k (.frz c.toD))
    | none => none := id rfl
@[simp] theorem r_toD_l (ds : List D) : (Cell.lst ds).toD = .lst ds := id rfl
@[simp] theorem r_toD_d (ds : List (Key × D)) : (Cell.dct ds).toD = .dct ds := id rfl
@[simp] theorem r_toD_o (c : Str) (gs : List (Str × D)) : (Cell.obj c gs).toD = .obj c gs := id rfl
@[simp] theorem r_toD_f (d : D) : (Cell.frz d).toD = d := id rfl
@[simp] theorem r_gIaddI (i j : Int) : gIadd (.int i) (.int j) = some (.int (i + j)) := id rfl
section
variable {env : Ev} {M : Ms} {fa fb fc : EF}
@[simp] theorem r_sAugS (g : D → D → Option D) (fo fi fe : EF) : sAugS g fo fi fe env M = match fo env M with
  | some (o, M1) => match fi env M1 with
    | some (i, M2) => match view M2 o with
      | some d => match view M2 i with
        | some di => match augGet d di with
          | some x => match fe env M2 with
            | some (s, M3) => match view M3 s with
              | some y => match g x y with
                | some z => match setCell M3 o di z with
                  | some M4 => some (.nx env M4)
                  | none => none
                | none => none
              | none => none
            | none => none
          | none => none
        | none => none
      | none => none
    | none => none
  | none => none := id rfl
@[simp] theorem r_sAugAny (i : Nat) (g : D → D → Option D) : sAugAny i g fa env M = match env[i]? with
  | some (some (.d _)) => sAug i g fa env M
  | some (some (.hd _)) => sAugL i fa env M
  | _ => none := id rfl
@[simp] theorem r_sAug (i : Nat) (g : D → D → Option D) : sAug i g fa env M = match env[i]? with
  | some (some (.d x)) => match fa env M with
    | some (s, M1) => match view M1 s with
      | some y => match g x y with
        | some r => some (.nx (env.set i (some (.d r))) M1)
        | none => none
      | none => none
    | none => none
  | _ => none := id rfl
@[simp] theorem r_sAugL (i : Nat) : sAugL i fa env M = match env[i]? with
  | some (some (.hd k)) => match fa env M with
    | some (s, M1) => match view M1 s with
      | some (.lst zs) => match M1[k]? with
        | some (.lst xs) => if xs.length + zs.length ≤ sizeLine then some (.nx env (M1.set k (.lst (xs ++ zs)))) else none
        | _ => none
      | _ => none
    | none => none
  | _ => none := id rfl
@[simp] theorem r_eAppend (fo fe : EF) : eAppend fo fe env M = match fo env M with
  | some (.hd k, M1) => match M1[k]? with
    | some (.lst _) => match fe env M1 with
      | some (s, M2) => match frz M2 s with
        | some (d, M3) => match M3[k]? with
          | some (.lst ds) => if ds.length < sizeLine then some (.d .non, M3.set k (.lst (ds ++ [d]))) else none
          | _ => none
        | none => none
      | none => none
    | _ => none
  | _ => none := id rfl
@[simp] theorem r_gSubD (fo fi : EF) (s : S) : gSubD fo fi s env M = match fo env M with
  | some (o, M1) => match fi env M1 with
    | some (i, M2) => match view M2 i with
      | some di => match frz M2 s with
        | some (d, M3) => match setCell M3 o di d with
          | some M4 => some (env, M4)
          | none => none
        | none => none
      | none => none
    | none => none
  | none => none := id rfl
@[simp] theorem r_gFldD (na : Str → Str → Bool) (x : Str) (fo : EF) (s : S) : gFldD na x fo s env M = match fo env M with
  | some (o, M1) => match frz M1 s with
    | some (d, M2) => match setFld na M2 o x d with
      | some M3 => some (env, M3)
      | none => none
    | none => none
  | none => none := id rfl
end
@[simp] theorem r_atI0 {α : Type} (x : α) (r : List α) : atI (x :: r) 0 = some x := by simp [atI, ixN]
@[simp] theorem r_atI1 {α : Type} (x y : α) (r : List α) : atI (x :: y :: r) 1 = some y := by
  have : (1 : Int) < (r.length : Int) + 1 + 1 := by omega
  simp [atI, ixN, this]
end G
/-! Dicts: displays, walks over pairs, keys, values; get, index. -/
namespace G
open PySem L2
abbrev KF := Ev → Ms → Option (List (Key × D) × Ms)
/-- the dict that e gives, changed no more -/
def dctOf (fa : EF) : KF := fun env M => match fa env M with
  | some (s, M1) => match frz M1 s with
    | some (.dct kds, M2) => some (kds, M2)
    | _ => none
  | none => none
def tLk (W : Wd) (f : KF) : TE := fun σ H Q => ∃ env M kds M' F κ, f env M = some (kds, M') ∧ Stt W.K W.cA F H κ M ∧ EnvR W.K W.cA F κ σ env ∧
  ∀ F' κ' H' p o kvs, Ext F κ F' κ' → Stt W.K W.cA F' H' κ' M' → F' p = some (.frz o (.dK kvs)) → kvs.map (·.1) = kds.map (·.1) → Reps W.K W.cA F' (kvs.map (·.2)) (kds.map (·.2)) → Q (.ref p) H'
theorem Stt.lockD {K : PySem.W.Frag} {cA : Str → Option Addr} {F H : Hp} {κ : List Addr} {M : Ms} (t : Stt K cA F H κ M) {p : Addr} {kvs : List (Key × V)} {o : Obj} (hF : F p = some (.dK kvs)) {H' : Hp} (hH : H' = upd H p (.frz o (.dK kvs))) :
    SubH F (upd F p (.frz o (.dK kvs))) ∧ Stt K cA (upd F p (.frz o (.dK kvs))) H' κ M := by
  have sF : SubH F (upd F p (.frz o (.dK kvs))) := fun b u e => by
    by_cases hb : b = p
    · subst hb; rw [hF] at e; cases e; exact .inr ⟨kvs, o, rfl, upd_same⟩
    · rw [upd_ne hb]; exact .inl e
  refine ⟨sF, ?_⟩
  subst hH
  refine ⟨fun b u e => ?_, t.nd, t.len, fun a ha => ?_, fun k a c e1 e2 => ?_⟩
  · by_cases hb : b = p
    · subst hb; rw [upd_same] at e ⊢; exact .inl e
    · rw [upd_ne hb] at e ⊢; exact t.sub b u e
  · by_cases hb : a = p
    · subst hb; exact ⟨_, upd_same⟩
    · rw [upd_ne hb]; exact t.tr a ha
  · have q := t.cell k a c e1 e2
    have ne : F a = none → a ≠ p := fun h e => by rw [e, hF] at h; cases h
    cases c with
    | lst ds => obtain ⟨f, vs, q1, q2⟩ := q; exact ⟨by rw [upd_ne (ne f)]; exact f, vs, by rw [upd_ne (ne f)]; exact q1, q2.mono sF⟩
    | dct kds => obtain ⟨f, kvs, q1, q2, q3⟩ := q; exact ⟨by rw [upd_ne (ne f)]; exact f, kvs, by rw [upd_ne (ne f)]; exact q1, q2, q3.mono sF⟩
    | obj c gs => obtain ⟨f, C, dx, fs, q1, q2, q3, q4, q5⟩ := q; exact ⟨by rw [upd_ne (ne f)]; exact f, C, dx, fs, q1, by rw [upd_ne (ne f)]; exact q2, q3, q4.mono sF, q5⟩
    | frz d => exact Rep.mono sF q
/-- the same where the heap has it locked -/
theorem Stt.lockF {K : PySem.W.Frag} {cA : Str → Option Addr} {F H : Hp} {κ : List Addr} {M : Ms} (t : Stt K cA F H κ M) {p : Addr} {kvs : List (Key × V)} {o : Obj} (hF : F p = some (.dK kvs)) (hH : H p = some (.frz o (.dK kvs))) :
    SubH F (upd F p (.frz o (.dK kvs))) ∧ Stt K cA (upd F p (.frz o (.dK kvs))) H κ M := t.lockD hF (by
  funext b
  by_cases hb : b = p
  · subst hb; rw [upd_same]; exact hH
  · rw [upd_ne hb])
section
variable {W : Wd} {N : List Str} {sc : Scp} {a b c : Expr} {fa fb fc : EF} {es : List Expr} {ga : AF} {pos : Pos} {tg : Expr}
theorem dk_lock (ha : DE W N sc a fa) : ∀ X, Gd W N sc X → PE X a (tLk W (dctOf fa)) := by
  intro X gd
  refine ⟨fun pins s σ H Q I h => ?_⟩
  obtain ⟨env, M, kds, M', F, κ, e, t, er, k⟩ := h
  unfold dctOf at e
  split at e
  rotate_left
  · cases e
  rename_i s1 M1 e1
  split at e
  rotate_left
  · cases e
  rename_i kds' M2 e2
  simp only [Option.some.injEq, Prod.mk.injEq] at e
  obtain ⟨rfl, rfl⟩ := e
  refine thn ((ha X gd).run pins s σ H (fun v H1 => ∃ F1 κ1, Ext F κ F1 κ1 ∧ Stt W.K W.cA F1 H1 κ1 M2 ∧ Rep W.K W.cA F1 v (.dct kds')) I ⟨env, M, s1, M1, F, κ, e1, t, er, fun F1 κ1 H1 v x1 t1 r => ?_⟩) fun u s2 ⟨v, H1, I1, r1, F1, κ1, x1, t1, rep⟩ => ?_
  · obtain ⟨F2, x2, t2, r2⟩ := t1.frz r e2
    exact ⟨F2, κ1, x1.trans x2, t2, r2⟩
  · cases rep with
    | dct q en rs =>
      rename_i p kvs
      rcases q with q | ⟨o, q⟩
      · rcases t1.sub p _ q with z | ⟨kvs', o, z1, z2⟩
        · obtain ⟨od, I2⟩ := I1.lock z trivial
          obtain ⟨sF, t2⟩ := t1.lockD (o := od) q rfl
          exact ⟨.ref p, _, I2, r1, k _ κ1 _ p od kvs (x1.trans (.sub' sF)) t2 upd_same en (rs.mono sF)⟩
        · cases z1
          obtain ⟨sF, t2⟩ := t1.lockF q z2
          exact ⟨.ref p, _, I1, r1, k _ κ1 _ p o kvs (x1.trans (.sub' sF)) t2 upd_same en (rs.mono sF)⟩
      · exact ⟨.ref p, _, I1, r1, k _ κ1 _ p o kvs x1 t1 q en rs⟩
def kD : Key → D
  | .inl i => .int i
  | .inr s => .str s
theorem kD_rep (K : PySem.W.Frag) (cA : Str → Option Addr) (F : Hp) (k : Key) : Rep K cA F (kV k) (kD k) := by
  cases k with
  | inl i => exact .int i
  | inr s => exact .str s
def iItemsD (fa : EF) : IF := fun env M => match dctOf fa env M with
  | some (kds, M1) => some (kds.map fun kv => .tup [kD kv.1, kv.2], M1)
  | none => none
def iValsD (fa : EF) : IF := fun env M => match dctOf fa env M with
  | some (kds, M1) => some (kds.map (·.2), M1)
  | none => none
def iKeysD (fa : EF) : IF := fun env M => match dctOf fa env M with
  | some (kds, M1) => some (kds.map fun kv => kD kv.1, M1)
  | none => none
theorem kvs_get {K : PySem.W.Frag} {cA : Str → Option Addr} {F : Hp} {kvs : List (Key × V)} {kds : List (Key × D)} (en : kvs.map (·.1) = kds.map (·.1)) (rs : Reps K cA F (kvs.map (·.2)) (kds.map (·.2))) {i : Nat} {k : Key} {v : V} (h : kvs[i]? = some (k, v)) : ∃ d, kds[i]? = some (k, d) ∧ Rep K cA F v d := by
  have h1 : (kvs.map (·.2))[i]? = some v := by rw [List.getElem?_map, h]; rfl
  obtain ⟨d, hd, r⟩ := rs.getV h1
  have h2 : (kvs.map (·.1))[i]? = some k := by rw [List.getElem?_map, h]; rfl
  rw [en] at h2
  rw [List.getElem?_map] at h2 hd
  cases e : kds[i]? with
  | none => rw [e] at hd; cases hd
  | some p =>
    rw [e] at h2 hd
    obtain ⟨k', d'⟩ := p
    cases h2; cases hd
    exact ⟨d', rfl, r⟩
theorem itok_items {F : Hp} {p : Addr} {o : Obj} {kvs : List (Key × V)} {kds : List (Key × D)} (hq : F p = some (.frz o (.dK kvs))) (en : kvs.map (·.1) = kds.map (·.1)) (rs : Reps W.K W.cA F (kvs.map (·.2)) (kds.map (·.2))) : ItOk W F (Iti p o kvs) (kds.map fun kv => .tup [kD kv.1, kv.2]) := by
  have hl : kvs.length = kds.length := by simpa using congrArg List.length en
  refine ⟨_, _, by rw [List.length_map, ← hl]; exact walk_items, fun F1 H hs h1 => h1.frz (hs.frz hq), fun i H x H' F1 d hd hs h1 hy => ?_⟩
  obtain ⟨T, x1, y1, rfl, hT, rfl, hx, hy⟩ := hy
  have hx : kvs[i]?.map (fun kv => kV kv.1) = some x1 := hx
  have hy : kvs[i]?.map Prod.snd = some y1 := hy
  cases e : kvs[i]? with
  | none => rw [e] at hx; cases hx
  | some kv =>
    obtain ⟨k, v⟩ := kv
    rw [e] at hx hy
    cases hx; cases hy
    obtain ⟨d1, hd1, r1⟩ := kvs_get en rs e
    have : d = .tup [kD k, d1] := by
      rw [List.getElem?_map, hd1] at hd
      exact (Option.some.inj hd).symm
    subst this
    exact new_pair (F := F) h1 hT (kD_rep _ _ _ k) (r1.mono hs)
theorem itok_vals {F : Hp} {p : Addr} {o : Obj} {kvs : List (Key × V)} {kds : List (Key × D)} (hq : F p = some (.frz o (.dK kvs))) (en : kvs.map (·.1) = kds.map (·.1)) (rs : Reps W.K W.cA F (kvs.map (·.2)) (kds.map (·.2))) : ItOk W F (Itd p o kvs) (kds.map (·.2)) := by
  have hl : kvs.length = kds.length := by simpa using congrArg List.length en
  refine ⟨_, _, by rw [List.length_map, ← hl]; exact walk_values, fun F1 H hs h1 => h1.frz (hs.frz hq), fun i H x H' F1 d hd hs h1 hy => ?_⟩
  obtain ⟨rfl, k, e⟩ := hy
  obtain ⟨d1, hd1, r1⟩ := kvs_get en rs e
  have : d = d1 := by
    rw [List.getElem?_map, hd1] at hd
    exact (Option.some.inj hd).symm
  subst this
  exact ⟨F1, New.refl h1, r1.mono hs⟩
theorem itok_keys {F : Hp} {p : Addr} {o : Obj} {kvs : List (Key × V)} {kds : List (Key × D)} (hq : F p = some (.frz o (.dK kvs))) (en : kvs.map (·.1) = kds.map (·.1)) (rs : Reps W.K W.cA F (kvs.map (·.2)) (kds.map (·.2))) : ItOk W F (Itk p o kvs) (kds.map fun kv => kD kv.1) := by
  have hl : kvs.length = kds.length := by simpa using congrArg List.length en
  refine ⟨_, _, by rw [List.length_map, ← hl]; exact walk_keys, fun F1 H hs h1 => h1.frz (hs.frz hq), fun i H x H' F1 d hd hs h1 hy => ?_⟩
  obtain ⟨rfl, k, v, e, rfl⟩ := hy
  obtain ⟨d1, hd1, r1⟩ := kvs_get en rs e
  have : d = kD k := by
    rw [List.getElem?_map, hd1] at hd
    exact (Option.some.inj hd).symm
  subst this
  exact ⟨F1, New.refl h1, kD_rep _ _ _ k⟩
theorem di_items {apos tpos cpos : Pos} {elts : List Expr} {kk : Nat} (hb : notSuper a = true) (hline : (apos.endLine == cpos.line) = true) (ha : DE W N sc a fa) : DI W N sc (.Tuple elts kk tpos) (.Call (.Attribute a "items" apos) [] [] cpos) (iItemsD fa) := by
  intro X gd
  refine PI.imp (pi_items (dk_lock ha X gd) (attr_base hb _ _) hline) fun σ H R h => ?_
  obtain ⟨env, M, ds, M', F, κ, e, t, er, k⟩ := h
  unfold iItemsD at e
  split at e
  rotate_left
  · cases e
  rename_i kds M1 e1
  simp only [Option.some.injEq, Prod.mk.injEq] at e
  obtain ⟨rfl, rfl⟩ := e
  exact ⟨env, M, kds, M1, F, κ, e1, t, er, fun F1 κ1 H1 p o kvs x1 t1 q en rs => ⟨p, o, kvs, rfl, t1.sub.frz q, k F1 κ1 H1 _ x1 t1 (itok_items q en rs)⟩⟩
theorem di_vals {apos cpos : Pos} (hb : notSuper a = true) (hline : (apos.endLine == cpos.line) = true) (ha : DE W N sc a fa) : DI W N sc tg (.Call (.Attribute a "values" apos) [] [] cpos) (iValsD fa) := by
  intro X gd
  refine PI.imp (pi_values (dk_lock ha X gd) (attr_base hb _ _) hline) fun σ H R h => ?_
  obtain ⟨env, M, ds, M', F, κ, e, t, er, k⟩ := h
  unfold iValsD at e
  split at e
  rotate_left
  · cases e
  rename_i kds M1 e1
  simp only [Option.some.injEq, Prod.mk.injEq] at e
  obtain ⟨rfl, rfl⟩ := e
  exact ⟨env, M, kds, M1, F, κ, e1, t, er, fun F1 κ1 H1 p o kvs x1 t1 q en rs => ⟨p, o, kvs, rfl, t1.sub.frz q, k F1 κ1 H1 _ x1 t1 (itok_vals q en rs)⟩⟩
theorem di_keys (ha : DE W N sc a fa) : DI W N sc tg a (iKeysD fa) := by
  intro X gd
  refine PI.imp (pi_keys (dk_lock ha X gd)) fun σ H R h => ?_
  obtain ⟨env, M, ds, M', F, κ, e, t, er, k⟩ := h
  unfold iKeysD at e
  split at e
  rotate_left
  · cases e
  rename_i kds M1 e1
  simp only [Option.some.injEq, Prod.mk.injEq] at e
  obtain ⟨rfl, rfl⟩ := e
  exact ⟨env, M, kds, M1, F, κ, e1, t, er, fun F1 κ1 H1 p o kvs x1 t1 q en rs => ⟨p, o, rfl, .inl ⟨kvs, t1.sub.frz q, k F1 κ1 H1 _ x1 t1 (itok_keys q en rs)⟩⟩⟩
end
end G
/-! Dict displays, get, index, dicts compared. -/
namespace G
open PySem L2
/-! ### {k: v, ..} -/
def tPairV (W : Wd) (f : KF) : L2.St → Hp → (List (V × V) → Hp → Prop) → Prop := fun σ H Q => ∃ env M kds M' F κ, f env M = some (kds, M') ∧ Stt W.K W.cA F H κ M ∧ EnvR W.K W.cA F κ σ env ∧
  ∀ F' κ' H' (kvs : List (Key × V)), Ext F κ F' κ' → Stt W.K W.cA F' H' κ' M' → kvs.map (·.1) = kds.map (·.1) → Reps W.K W.cA F' (kvs.map (·.2)) (kds.map (·.2)) → Q (kvs.map fun (kv : Key × V) => (kV kv.1, kv.2)) H'
def DPs (W : Wd) (N : List Str) (sc : Scp) (keys : List (Option Expr)) (values : List Expr) (f : KF) : Prop := ∀ X, Gd W N sc X → ∀ pos, ∃ trs, PPs X pos keys values trs ∧ ∀ σ H Q, tPairV W f σ H Q → tPairs trs σ H Q
def dpNil : KF := fun _ M => some ([], M)
def dpCons (fk fv : EF) (r : KF) : KF := fun env M => match fk env M with
  | some (s, M1) => match view M1 s with
    | some dk => match keyD dk with
      | some k => match fv env M1 with
        | some (s', M2) => match frz M2 s' with
          | some (d, M3) => match r env M3 with
            | some (kds, M4) => some ((k, d) :: kds, M4)
            | none => none
          | none => none
        | none => none
      | none => none
    | none => none
  | none => none
def cDisp (f : KF) : CF := fun env M => match f env (M ++ [.dct []]) with
  | some (kds, M1) => match M1[M.length]? with
    | some (.dct []) => if kds.length ≤ 15 then some (.dct (mergeD [] kds), M1.take M.length) else none
    | _ => none
  | none => none
section
variable {W : Wd} {N : List Str} {sc : Scp} {a b c : Expr} {fa fb fc : EF} {es : List Expr} {ga : AF} {pos : Pos} {tg : Expr}
theorem dp_nil : DPs W N sc [] [] dpNil := by
  intro X gd pos
  refine ⟨[], pps_nil, fun σ H Q h => ?_⟩
  obtain ⟨env, M, kds, M', F, κ, e, t, er, k⟩ := h
  simp only [dpNil, Option.some.injEq, Prod.mk.injEq] at e
  obtain ⟨rfl, rfl⟩ := e
  exact k F κ H [] (.refl _ _) t rfl .nil
theorem dp_cons {keys : List (Option Expr)} {values : List Expr} {f : KF} (ha : DE W N sc a fa) (hb : DE W N sc b fb) (hr : DPs W N sc keys values f) : DPs W N sc (some a :: keys) (b :: values) (dpCons fa fb f) := by
  intro X gd pos
  obtain ⟨trs, h1, h2⟩ := hr X gd pos
  refine ⟨_, pps_cons (ha X gd) (hb X gd) h1, fun σ H Q h => ?_⟩
  obtain ⟨env, M, kds, M', F, κ, e, t, er, k⟩ := h
  unfold dpCons at e
  split at e
  rotate_left
  · cases e
  rename_i s M1 e1
  split at e
  rotate_left
  · cases e
  rename_i dk e2
  split at e
  rotate_left
  · cases e
  rename_i kk e3
  split at e
  rotate_left
  · cases e
  rename_i s' M2 e4
  split at e
  rotate_left
  · cases e
  rename_i d M3 e5
  split at e
  rotate_left
  · cases e
  rename_i kds' M4 e6
  simp only [Option.some.injEq, Prod.mk.injEq] at e
  obtain ⟨rfl, rfl⟩ := e
  refine ⟨env, M, s, M1, F, κ, e1, t, er, fun F1 κ1 H1 v1 x1 t1 r1 => ?_⟩
  have hk := keyD_rep (t1.view r1 e2) e3
  subst hk
  refine ⟨env, M1, s', M2, F1, κ1, e4, t1, er.ext x1, fun F2 κ2 H2 v2 x2 t2 r2 => ?_⟩
  obtain ⟨F3, x3, t3, r3⟩ := t2.frz r2 e5
  refine h2 σ H2 _ ⟨env, M3, kds', M4, F3, κ2, e6, t3, ((er.ext x1).ext x2).ext x3, fun F4 κ4 H4 kvs x4 t4 en rs => ?_⟩
  exact k F4 κ4 H4 ((kk, v2) :: kvs) (((x1.trans x2).trans x3).trans x4) t4 (by simp [en]) (.cons (r3.mono x4.sub) rs)
theorem df_dct {keys : List (Option Expr)} {values : List Expr} {f : KF} (hall : keys.all (·.isSome) = true) (hl : keys.length = values.length) (h0 : keys ≠ []) (h15 : keys.length ≤ 15) (h : DPs W N sc keys values f) : DF W N sc (.Dict keys values pos) (cDisp f) := by
  intro X gd
  obtain ⟨trs, h1, h2⟩ := h X gd pos
  refine PE.imp (pe_disp h1 hall hl h0 h15) fun σ H Q h => ?_
  obtain ⟨env, M, c0, M', F, κ, e, t, er, k⟩ := h
  unfold cDisp at e
  split at e
  rotate_left
  · cases e
  rename_i kds M1 e1
  split at e
  rotate_left
  · cases e
  rename_i e2
  split at e
  rotate_left
  · cases e
  rename_i hz
  simp only [Option.some.injEq, Prod.mk.injEq] at e
  obtain ⟨rfl, rfl⟩ := e
  intro p hp
  have n0 : New F H F (upd H p (.dK [])) := New.oneH t.sub hp
  have t1 : Stt W.K W.cA F (upd H p (.dK [])) (κ ++ [p]) (M ++ [.dct []]) := t.push hp n0 (c := .dct []) ⟨t.sub.none hp, [], upd_same, rfl, .nil⟩ (fun d z => by cases z)
  have x0 : Ext F κ F (κ ++ [p]) := ⟨.refl _, [p], rfl⟩
  refine h2 σ _ _ ⟨env, _, kds, M1, F, κ ++ [p], e1, t1, er.ext x0, fun F2 κ2 H2 kvs x2 t2 en rs => ?_⟩
  have hkp : κ2[M.length]? = some p := by
    obtain ⟨_, m, rfl⟩ := x2
    rw [← t.len]
    simp
  obtain ⟨fp, kv0, q1, q2, q3⟩ := t2.cell M.length p _ hkp e2
  have hk0 : kv0 = [] := by cases kv0 with | nil => rfl | cons _ _ => simp at q2
  subst hk0
  have hlen : kvs.length = kds.length := by simpa using congrArg List.length en
  refine ⟨q1, kvs, rfl, by rw [hlen]; exact hz, ?_⟩
  obtain ⟨m1, m2⟩ := merge_rep (kvs := []) (kds := []) en rs rfl .nil
  -- the new dict beside the cells that were
  have xx : Ext F κ F2 (κ2.take M.length) := by
    obtain ⟨hs, m, rfl⟩ := x2
    refine ⟨hs, [], ?_⟩
    rw [← t.len]; simp
  have hnp : p ∉ κ2.take M.length := by
    intro hm
    obtain ⟨j, hj, ej⟩ := List.mem_iff_getElem.mp hm
    have hj' : j < M.length := by rw [List.length_take] at hj; omega
    have : κ2[j]? = some p := by
      rw [List.getElem_take] at ej
      rw [List.getElem?_eq_getElem (by rw [List.length_take] at hj; omega), ej]
    have := nodup_get t2.nd this hkp
    omega
  have t3 : Stt W.K W.cA F2 (upd H2 p (.dK (mergeK [] kvs))) (κ2.take M.length) (M1.take M.length) := by
    have t4 := t2.setc hkp e2 fp (o := .dK (mergeK [] kvs)) (c' := .dct (mergeD [] kds)) ⟨fp, _, upd_same, m1, m2⟩
    have t5 := t4.take M.length
    rw [List.take_set_of_le (by omega)] at t5
    exact t5
  exact k F2 _ _ p xx t3 hnp rfl ⟨fp, _, upd_same, m1, m2⟩
end
end G
/-! index, get. -/
namespace G
open PySem L2
def firstIx {α : Type} (p : α → Bool) : List α → Option Nat
  | [] => none
  | x :: r => if p x then some 0 else (firstIx p r).map Nat.succ
theorem firstIx_some {α : Type} {p : α → Bool} : ∀ {l : List α} {j : Nat}, firstIx p l = some j → ∃ z, l[j]? = some z ∧ p z = true ∧ ∀ (m : Nat) (z' : α), m < j → l[m]? = some z' → p z' = false
  | [], j, h => by cases h
  | x :: r, j, h => by
    unfold firstIx at h
    split at h
    · rename_i hx
      cases h
      exact ⟨x, rfl, hx, fun m z' hm => by omega⟩
    · rename_i hx
      cases e : firstIx p r with
      | none => rw [e] at h; cases h
      | some i =>
        rw [e] at h
        cases h
        obtain ⟨z, h1, h2, h3⟩ := firstIx_some e
        refine ⟨z, by simpa using h1, h2, fun m z' hm hz => ?_⟩
        cases m with
        | zero => simp at hz; subst hz; simpa using hx
        | succ m => exact h3 m z' (by omega) (by simpa using hz)
def strD : List D → Option (List Str) := fun ds => ds.mapM fun d => match d with
  | .str x => some x
  | _ => none
def gIndex : D → D → Option D
  | .lst ds, y => match pys ds with
    | some xs => match D.py y with
      | some d => if (PyData.list xs).depth ≤ 64 ∧ d.depth ≤ 64 then (firstIx (fun z => PyData.eqv z d) xs).map fun j => .int (j : Nat) else none
      | none => none
    | none => none
  | _, _ => none
theorem pe_or {X : Cx} {e : Expr} {t t' : TE} (h : PE X e t) (h' : PE X e t') : PE X e (fun σ H Q => t σ H Q ∨ t' σ H Q) := ⟨fun pins s σ H Q I hw => hw.elim (h.run pins s σ H Q I) (h'.run pins s σ H Q I)⟩
def notLive : S → Bool
  | .d _ => true
  | .hd _ => false
/-- o.index(e), o looked at before e -/
def eIndex (fo fe : EF) : EF := fun env M => match fo env M with
  | some (s, M1) => match view M1 s with
    | some x => match fe env M1 with
      | some (s', M2) => match view M2 s with
        | some x' => match view M2 s' with
          | some y => match x, gIndex x' y with
            | .lst _, some (.int j) => match x' with
              | .lst _ => some (.d (.int j), M2)
              | _ => none
            | _, _ => none
          | none => none
        | none => none
      | none => none
    | none => none
  | none => none
section
variable {W : Wd} {N : List Str} {sc : Scp} {a b c : Expr} {fa fb fc : EF} {es : List Expr} {ga : AF} {pos : Pos} {tg : Expr}
theorem de_index {apos : Pos} (hb : notSuper a = true) (hst : notStar b = true) (hline : (apos.endLine == pos.line) = true) (ha : DE W N sc a fa) (hbb : DE W N sc b fb) :
    DE W N sc (.Call (.Attribute a "index" apos) [b] [] pos) (eIndex fa fb) := by
  intro X gd
  have hss : [b].all notStar = true := by simp [hst]
  refine PE.imp (pe_bm PySem.F.plainAttrs_list PySem.F.slot_list_index PySem.F.type_list_index (mt_indexD gd.hu64) (ha X gd) (pa_cons (hbb X gd) pa_nil (star_cons hst _ _)) (attr_base hb _ _) (few_args hss (by simp) _ _) hline (star_cons hst _ _) (plain_args (by rfl) _ _)) fun σ H Q h => ?_
  obtain ⟨env, M, s', M', F, κ, e, t, er, k⟩ := h
  unfold eIndex at e
  split at e
  rotate_left
  · cases e
  rename_i s M1 e1
  split at e
  rotate_left
  · cases e
  rename_i x e2
  split at e
  rotate_left
  · cases e
  rename_i s2 M2 e3
  split at e
  rotate_left
  · cases e
  rename_i x' e4
  split at e
  rotate_left
  · cases e
  rename_i y e5
  split at e
  · rename_i ds j e6
    split at e
    rotate_left
    · cases e
    rename_i ds'
    simp only [Option.some.injEq, Prod.mk.injEq] at e
    obtain ⟨rfl, rfl⟩ := e
    refine ⟨env, M, s, M1, F, κ, e1, t, er, fun F1 κ1 H1 v x1 t1 r => ?_⟩
    obtain ⟨p, vs0, rfl, q1, r1⟩ := (t1.view r e2).lst_ t1.sub
    refine ⟨.inl ⟨rfl, _, .of q1⟩, ?_⟩
    refine ⟨env, M1, s2, M2, F1, κ1, e3, t1, er.ext x1, fun F2 κ2 H2 w x2 t2 rw' => ?_⟩
    have vx := t2.view (r.ext x2) e4
    have vy := t2.view rw' e5
    have e6 : (match pys ds' with
      | some xs => match D.py y with
        | some d => if (PyData.list xs).depth ≤ 64 ∧ d.depth ≤ 64 then (firstIx (fun z => PyData.eqv z d) xs).map fun j => D.int (j : Nat) else none
        | none => none
      | none => none) = some (.int j) := e6
    split at e6
    rotate_left
    · cases e6
    rename_i xs p1
    split at e6
    rotate_left
    · cases e6
    rename_i d p2
    split at e6
    rotate_left
    · cases e6
    rename_i hd
    cases e7 : firstIx (fun z => PyData.eqv z d) xs with
    | none => rw [e7] at e6; cases e6
    | some i =>
      rw [e7] at e6
      cases e6
      obtain ⟨z, z1, z2, z3⟩ := firstIx_some e7
      have pl : D.py (.lst ds') = some (.list xs) := by unfold D.py; rw [p1]
      refine ⟨p, w, d, xs, i, z, rfl, rfl, by rw [gd.K]; exact vx.dp t2.sub pl, by rw [gd.K]; exact vy.dp t2.sub p2, shaped_py pl hd.1, shaped_py p2 hd.2, z1, z2, z3, ?_⟩
      exact k F2 κ2 H2 _ (x1.trans x2) t2 (show Rep W.K W.cA F2 (.int (i : Nat)) (.int (i : Nat)) from .int _)
  · cases e
/-- d.get(k) -/
def eGet1 (fo fe : EF) : EF := fun env M => match fo env M with
  | some (s, M1) => match view M1 s with
    | some (.dct _) => match fe env M1 with
      | some (s', M2) => match view M2 s with
        | some (.dct kds) => match view M2 s' with
          | some y => match keyD y with
            | some k => some (.d ((valD kds k).getD .non), M2)
            | none => none
          | none => none
        | _ => none
      | none => none
    | _ => none
  | none => none
/-- d.get(k, x) -/
def eGet2 (fo fe fx : EF) : EF := fun env M => match fo env M with
  | some (s, M1) => match view M1 s with
    | some (.dct _) => match fe env M1 with
      | some (s', M2) => match fx env M2 with
        | some (s'', M3) => match view M3 s with
          | some (.dct kds) => match view M3 s' with
            | some y => match keyD y with
              | some k => match frz M3 s'' with
                | some (d, M4) => some (.d ((valD kds k).getD d), M4)
                | none => none
              | none => none
            | none => none
          | _ => none
        | none => none
      | none => none
    | _ => none
  | none => none
theorem VRep.fr {K : PySem.W.Frag} {cA : Str → Option Addr} {F F' H : Hp} {v : V} {d : D} (hs : SubH F F') (h : VRep K cA F H v d) : VRep K cA F' H v d := by
  cases h with
  | rep q => exact .rep (q.mono hs)
  | lst q r => exact .lst q (r.mono hs)
  | dct q e r => exact .dct q e (r.mono hs)
  | obj c q e r n => exact .obj c q e (r.mono hs) n
theorem getD_rep {K : PySem.W.Frag} {cA : Str → Option Addr} {F : Hp} {kvs : List (Key × V)} {kds : List (Key × D)} {k : Key} (en : kvs.map (·.1) = kds.map (·.1)) (rs : Reps K cA F (kvs.map (·.2)) (kds.map (·.2))) {v : V} {d : D} (r : Rep K cA F v d) : Rep K cA F ((valV kvs k).getD v) ((valD kds k).getD d) := by
  have vv := val_rep (k := k) en rs
  cases e : valD kds k with
  | none => rw [vv.2 e]; exact r
  | some x =>
    obtain ⟨w, hw, rw'⟩ := vv.1 x e
    rw [hw]
    exact rw'
theorem de_get1 {apos : Pos} (hb : notSuper a = true) (hst : notStar b = true) (hline : (apos.endLine == pos.line) = true) (ha : DE W N sc a fa) (hbb : DE W N sc b fb) :
    DE W N sc (.Call (.Attribute a "get" apos) [b] [] pos) (eGet1 fa fb) := by
  intro X gd
  have hss : [b].all notStar = true := by simp [hst]
  refine PE.imp (pe_dget1 gd.hu (ha X gd) (hbb X gd) ⟨attr_base hb _ _, few_args hss (by simp) _ _, hline, by rw [star_cons hst]; rfl⟩) fun σ H Q h => ?_
  obtain ⟨env, M, s', M', F, κ, e, t, er, k⟩ := h
  unfold eGet1 at e
  split at e
  rotate_left
  · cases e
  rename_i s M1 e1
  split at e
  rotate_left
  · cases e
  rename_i kds0 e2
  split at e
  rotate_left
  · cases e
  rename_i s2 M2 e3
  split at e
  rotate_left
  · cases e
  rename_i kds e4
  split at e
  rotate_left
  · cases e
  rename_i y e5
  split at e
  rotate_left
  · cases e
  rename_i kk e6
  simp only [Option.some.injEq, Prod.mk.injEq] at e
  obtain ⟨rfl, rfl⟩ := e
  refine ⟨env, M, s, M1, F, κ, e1, t, er, fun F1 κ1 H1 v x1 t1 r => ?_⟩
  obtain ⟨p, kv0, rfl, q1, _, _⟩ := (t1.view r e2).dct0 t1.sub
  refine ⟨p, rfl, .inl ⟨kv0, q1⟩, ?_⟩
  refine ⟨env, M1, s2, M2, F1, κ1, e3, t1, er.ext x1, fun F2 κ2 H2 w x2 t2 rw' => ?_⟩
  obtain ⟨p', kvs, hp, q2, en, rs⟩ := (t2.view (r.ext x2) e4).dct0 t2.sub
  cases hp
  have hk := keyD_rep (t2.view rw' e5) e6
  subst hk
  exact ⟨valV kvs kk, .inl ⟨kvs, kk, q2, rfl, rfl⟩, k F2 κ2 H2 _ (x1.trans x2) t2 (show Rep W.K W.cA F2 _ _ from getD_rep en rs .non)⟩
theorem de_get2 {apos : Pos} (hb : notSuper a = true) (hst : notStar b = true) (hst2 : notStar c = true) (hline : (apos.endLine == pos.line) = true) (ha : DE W N sc a fa) (hbb : DE W N sc b fb) (hcc : DE W N sc c fc) :
    DE W N sc (.Call (.Attribute a "get" apos) [b, c] [] pos) (eGet2 fa fb fc) := by
  intro X gd
  have hss : [b, c].all notStar = true := by simp [hst, hst2]
  refine PE.imp (pe_dget2 gd.hu (ha X gd) (hbb X gd) (hcc X gd) ⟨attr_base hb _ _, few_args hss (by simp) _ _, hline, by rw [star_cons hst, star_cons hst2]; rfl⟩) fun σ H Q h => ?_
  obtain ⟨env, M, s', M', F, κ, e, t, er, k⟩ := h
  unfold eGet2 at e
  split at e
  rotate_left
  · cases e
  rename_i s M1 e1
  split at e
  rotate_left
  · cases e
  rename_i kds0 e2
  split at e
  rotate_left
  · cases e
  rename_i s2 M2 e3
  split at e
  rotate_left
  · cases e
  rename_i s3 M3 e4
  split at e
  rotate_left
  · cases e
  rename_i kds e5
  split at e
  rotate_left
  · cases e
  rename_i y e6
  split at e
  rotate_left
  · cases e
  rename_i kk e7
  split at e
  rotate_left
  · cases e
  rename_i d M4 e8
  simp only [Option.some.injEq, Prod.mk.injEq] at e
  obtain ⟨rfl, rfl⟩ := e
  refine ⟨env, M, s, M1, F, κ, e1, t, er, fun F1 κ1 H1 v x1 t1 r => ?_⟩
  obtain ⟨p, kv0, rfl, q1, _, _⟩ := (t1.view r e2).dct0 t1.sub
  refine ⟨p, rfl, .inl ⟨kv0, q1⟩, ?_⟩
  refine ⟨env, M1, s2, M2, F1, κ1, e3, t1, er.ext x1, fun F2 κ2 H2 w x2 t2 rw' => ?_⟩
  refine ⟨env, M2, s3, M3, F2, κ2, e4, t2, (er.ext x1).ext x2, fun F3 κ3 H3 z x3 t3 rz => ?_⟩
  have vd := t3.view ((r.ext x2).ext x3) e5
  have vk := t3.view (rw'.ext x3) e6
  obtain ⟨F4, x4, t4, r4⟩ := t3.frz rz e8
  obtain ⟨p', kvs, hp, q2, en, rs⟩ := (vd.fr x4.sub).dct0 t4.sub
  cases hp
  have hk := keyD_rep vk e7
  subst hk
  exact ⟨valV kvs kk, .inl ⟨kvs, kk, q2, rfl, rfl⟩, k F4 κ3 H3 _ (((x1.trans x2).trans x3).trans x4) t4 (show Rep W.K W.cA F4 _ _ from getD_rep en rs r4)⟩
end
end G
/-! Texts, plain data compared, names: for plain reckoning. -/
namespace G
open PySem L2
theorem lit_toList (s : String) : (Str.ofString s).cps.toList = s.toList.map Char.toNat := by
  rw [Str.ofString_eq_toList]
theorem toNat_inj {a b : Char} (h : a.toNat = b.toNat) : a = b := Char.toNat_inj.mp h
theorem mapNat_inj : ∀ {a b : List Char}, a.map Char.toNat = b.map Char.toNat → a = b
  | [], [], _ => rfl
  | [], _ :: _, h => by simp at h
  | _ :: _, [], h => by simp at h
  | x :: a, y :: b, h => by
    simp only [List.map_cons, List.cons.injEq] at h
    rw [toNat_inj h.1, mapNat_inj h.2]
@[simp] theorem lit_inj (a b : String) : (Str.ofString a = Str.ofString b) = (a = b) := by
  refine propext ⟨fun h => ?_, fun h => by rw [h]⟩
  have h2 : (Str.ofString a).cps.toList = (Str.ofString b).cps.toList := by rw [h]
  rw [lit_toList, lit_toList] at h2
  exact String.toList_inj.mp (mapNat_inj h2)
@[simp] theorem lit_ok (s : String) : PyData.strOk (Str.ofString s) = true := by
  unfold PyData.strOk
  rw [← Array.all_toList, lit_toList, List.all_map, List.all_eq_true]
  intro c _
  have h := c.valid
  simp only [UInt32.isValidChar, Nat.isValidChar] at h
  have : c.toNat = c.val.toNat := rfl
  simp only [Function.comp, decide_eq_true_eq]
  omega
theorem str_ext {a b : Str} (h : a.cps.toList = b.cps.toList) : a = b := by
  cases a with | mk a => cases b with | mk b =>
  congr 1
  exact Array.toList_inj.mp h
theorem str_app (a b : Str) : (a ++ b).cps.toList = a.cps.toList ++ b.cps.toList := by
  show (a.cps ++ b.cps).toList = _
  simp
@[simp] theorem lit_app (a b : String) : Str.ofString a ++ Str.ofString b = Str.ofString (a ++ b) := by
  apply str_ext
  rw [str_app, lit_toList, lit_toList, lit_toList]
  simp
theorem str_len (x : Str) : x.length = x.cps.toList.length := by
  show x.cps.size = _
  simp
/-! ### plain data -/
mutual
def toPy : D → PyData
  | .non => .none
  | .bl b => .bool b
  | .int i => .int i
  | .str x => .str x
  | .tup ds => .tuple (toPys ds)
  | .lst ds => .list (toPys ds)
  | .scr ns => .list (ns.map PyData.int)
  | .dct _ => .none
  | .obj _ _ => .none
def toPys : List D → List PyData
  | [] => []
  | d :: r => toPy d :: toPys r
end
mutual
def okP : D → Bool
  | .non => true
  | .bl _ => true
  | .int _ => true
  | .str x => PyData.strOk x
  | .tup ds => oksP ds
  | .lst ds => oksP ds
  | .scr _ => true
  | .dct _ => false
  | .obj _ _ => false
def oksP : List D → Bool
  | [] => true
  | d :: r => okP d && oksP r
end
@[simp] theorem toPys_nil : toPys [] = [] := id rfl
@[simp] theorem toPys_cons (d : D) (r : List D) : toPys (d :: r) = toPy d :: toPys r := id rfl
@[simp] theorem oksP_nil : oksP [] = true := id rfl
@[simp] theorem oksP_cons (d : D) (r : List D) : oksP (d :: r) = (okP d && oksP r) := id rfl
mutual
theorem py_eq : ∀ d : D, D.py d = if okP d then some (toPy d) else none
  | .non => by simp [D.py, okP, toPy]
  | .bl _ => by simp [D.py, okP, toPy]
  | .int _ => by simp [D.py, okP, toPy]
  | .str x => by
    unfold D.py okP toPy
    split <;> rfl
  | .tup ds => by
    unfold D.py
    rw [pys_eq ds]
    unfold okP toPy
    cases oksP ds <;> simp
  | .lst ds => by
    unfold D.py
    rw [pys_eq ds]
    unfold okP toPy
    cases oksP ds <;> simp
  | .scr _ => by simp [D.py, okP, toPy]
  | .dct _ => by simp [D.py, okP, toPy]
  | .obj _ _ => by simp [D.py, okP, toPy]
theorem pys_eq : ∀ ds : List D, pys ds = if oksP ds then some (toPys ds) else none
  | [] => by simp [pys, oksP, toPys]
  | d :: r => by
    unfold pys
    rw [py_eq d, pys_eq r, oksP_cons, toPys_cons]
    cases okP d <;> cases oksP r <;> rfl
end
@[simp] theorem toPy_non : toPy .non = .none := id rfl
@[simp] theorem toPy_bl (b : Bool) : toPy (.bl b) = .bool b := id rfl
@[simp] theorem toPy_int (b : Int) : toPy (.int b) = .int b := id rfl
@[simp] theorem toPy_str (b : Str) : toPy (.str b) = .str b := id rfl
@[simp] theorem toPy_tup (b : List D) : toPy (.tup b) = .tuple (toPys b) := id rfl
@[simp] theorem toPy_lst (b : List D) : toPy (.lst b) = .list (toPys b) := id rfl
@[simp] theorem okP_non : okP .non = true := id rfl
@[simp] theorem okP_bl (b : Bool) : okP (.bl b) = true := id rfl
@[simp] theorem okP_int (b : Int) : okP (.int b) = true := id rfl
@[simp] theorem okP_str (b : Str) : okP (.str b) = PyData.strOk b := id rfl
@[simp] theorem okP_tup (b : List D) : okP (.tup b) = oksP b := id rfl
@[simp] theorem okP_lst (b : List D) : okP (.lst b) = oksP b := id rfl
@[simp] theorem okP_obj (c : Str) (gs : List (Str × D)) : okP (.obj c gs) = false := id rfl
@[simp] theorem okP_dct (gs : List (Key × D)) : okP (.dct gs) = false := id rfl
@[simp] theorem oksP_app : ∀ (a b : List D), oksP (a ++ b) = (oksP a && oksP b)
  | [], b => by simp
  | x :: a, b => by simp [oksP_app a b, Bool.and_assoc]
@[simp] theorem toPys_app : ∀ (a b : List D), toPys (a ++ b) = toPys a ++ toPys b
  | [], b => by simp
  | x :: a, b => by simp [toPys_app a b]
theorem oksP_all : ∀ a : List D, oksP a = a.all okP
  | [] => rfl
  | x :: a => by simp [oksP_all a]
theorem toPys_map : ∀ a : List D, toPys a = a.map toPy
  | [] => rfl
  | x :: a => by simp [toPys_map a]
/-- how deep: over the pictures -/
abbrev dpL (ds : List D) : Nat := PyData.depthAll (toPys ds)
@[simp] theorem dpA_nil : PyData.depthAll [] = 0 := by unfold PyData.depthAll; rfl
@[simp] theorem dpA_cons (x : PyData) (r : List PyData) : PyData.depthAll (x :: r) = max x.depth (PyData.depthAll r) := by conv => lhs; unfold PyData.depthAll
@[simp] theorem dp_int (i : Int) : (PyData.int i).depth = 0 := by unfold PyData.depth; rfl
@[simp] theorem dp_str (i : Str) : (PyData.str i).depth = 0 := by unfold PyData.depth; rfl
@[simp] theorem dp_bool (i : Bool) : (PyData.bool i).depth = 0 := by unfold PyData.depth; rfl
@[simp] theorem dp_none : (PyData.none).depth = 0 := by unfold PyData.depth; rfl
@[simp] theorem dp_tuple (i : List PyData) : (PyData.tuple i).depth = PyData.depthAll i + 1 := by conv => lhs; unfold PyData.depth
@[simp] theorem dp_list (i : List PyData) : (PyData.list i).depth = PyData.depthAll i + 1 := by conv => lhs; unfold PyData.depth
theorem dpA_le {k : Nat} : ∀ {xs : List PyData}, (∀ x ∈ xs, x.depth ≤ k) → PyData.depthAll xs ≤ k
  | [], _ => by simp
  | x :: xs, h => by
    rw [dpA_cons]
    have h1 := h x (by simp)
    have h2 := dpA_le (k := k) (xs := xs) fun y hy => h y (List.mem_cons_of_mem _ hy)
    omega
@[simp] theorem eqv_int (i j : Int) : PyData.eqv (.int i) (.int j) = decide (i = j) := by unfold PyData.eqv; by_cases h : i = j <;> simp [h]
@[simp] theorem eqv_str (i j : Str) : PyData.eqv (.str i) (.str j) = decide (i = j) := by unfold PyData.eqv; by_cases h : i = j <;> simp [h]
@[simp] theorem eqv_bool (i j : Bool) : PyData.eqv (.bool i) (.bool j) = (i == j) := by unfold PyData.eqv; rfl
@[simp] theorem eqv_none : PyData.eqv .none .none = true := by unfold PyData.eqv; rfl
@[simp] theorem eqv_non_int (i : Int) : PyData.eqv .none (.int i) = false := by unfold PyData.eqv; rfl
@[simp] theorem eqv_int_non (i : Int) : PyData.eqv (.int i) .none = false := by unfold PyData.eqv; rfl
@[simp] theorem eqv_non_str (i : Str) : PyData.eqv .none (.str i) = false := by unfold PyData.eqv; rfl
@[simp] theorem eqv_str_non (i : Str) : PyData.eqv (.str i) .none = false := by unfold PyData.eqv; rfl
@[simp] theorem eqv_int_str (i : Int) (j : Str) : PyData.eqv (.int i) (.str j) = false := by unfold PyData.eqv; rfl
@[simp] theorem eqv_str_int (i : Int) (j : Str) : PyData.eqv (.str j) (.int i) = false := by unfold PyData.eqv; rfl
@[simp] theorem eqv_non_tup (i : List PyData) : PyData.eqv .none (.tuple i) = false := by unfold PyData.eqv; rfl
@[simp] theorem eqv_tup_non (i : List PyData) : PyData.eqv (.tuple i) .none = false := by unfold PyData.eqv; rfl
@[simp] theorem eqv_tuple (i j : List PyData) : PyData.eqv (.tuple i) (.tuple j) = PyData.eqvAll i j := by conv => lhs; unfold PyData.eqv
@[simp] theorem eqv_list (i j : List PyData) : PyData.eqv (.list i) (.list j) = PyData.eqvAll i j := by conv => lhs; unfold PyData.eqv
@[simp] theorem eqv_tl (i j : List PyData) : PyData.eqv (.tuple i) (.list j) = false := by conv => lhs; unfold PyData.eqv
@[simp] theorem eqv_lt (i j : List PyData) : PyData.eqv (.list i) (.tuple j) = false := by conv => lhs; unfold PyData.eqv
@[simp] theorem eqvA_nn : PyData.eqvAll [] [] = true := by unfold PyData.eqvAll; rfl
@[simp] theorem eqvA_nc (x : PyData) (r : List PyData) : PyData.eqvAll [] (x :: r) = false := by unfold PyData.eqvAll; rfl
@[simp] theorem eqvA_cn (x : PyData) (r : List PyData) : PyData.eqvAll (x :: r) [] = false := by unfold PyData.eqvAll; rfl
@[simp] theorem eqvA_cc (x y : PyData) (r s : List PyData) : PyData.eqvAll (x :: r) (y :: s) = (PyData.eqv x y && PyData.eqvAll r s) := by conv => lhs; unfold PyData.eqvAll
theorem eqvA_map {α : Type} [DecidableEq α] (f : α → D) (h : ∀ a b, PyData.eqv (toPy (f a)) (toPy (f b)) = decide (a = b)) : ∀ xs ys : List α, PyData.eqvAll (toPys (xs.map f)) (toPys (ys.map f)) = decide (xs = ys)
  | [], [] => by simp
  | [], _ :: _ => by simp
  | _ :: _, [] => by simp
  | x :: xs, y :: ys => by
    simp only [List.map_cons, toPys_cons, eqvA_cc, h, eqvA_map f h xs ys, List.cons.injEq]
    by_cases h1 : x = y <;> by_cases h2 : xs = ys <;> simp [h1, h2]
@[simp] theorem eqvA_strs (xs ys : List Str) : PyData.eqvAll (toPys (xs.map D.str)) (toPys (ys.map D.str)) = decide (xs = ys) := eqvA_map D.str (fun a b => by simp) xs ys
@[simp] theorem eqvA_ints (xs ys : List Int) : PyData.eqvAll (toPys (xs.map D.int)) (toPys (ys.map D.int)) = decide (xs = ys) := eqvA_map D.int (fun a b => by simp) xs ys
@[simp] theorem oks_strs : ∀ (xs : List Str), oksP (xs.map D.str) = xs.all PyData.strOk
  | [] => rfl
  | x :: xs => by simp [oks_strs xs]
@[simp] theorem oks_ints : ∀ (xs : List Int), oksP (xs.map D.int) = true
  | [] => rfl
  | x :: xs => by simp [oks_ints xs]
@[simp] theorem dp_strs : ∀ (xs : List Str), PyData.depthAll (toPys (xs.map D.str)) = 0
  | [] => by simp
  | x :: xs => by simp [dp_strs xs]
@[simp] theorem dp_ints : ∀ (xs : List Int), PyData.depthAll (toPys (xs.map D.int)) = 0
  | [] => by simp
  | x :: xs => by simp [dp_ints xs]
theorem eqP_eq (x y : D) : eqP x y = if okP x = true ∧ okP y = true ∧ (toPy x).depth ≤ 64 ∧ (toPy y).depth ≤ 64 then some (PyData.eqv (toPy x) (toPy y)) else none := by
  unfold eqP
  rw [py_eq, py_eq]
  cases okP x <;> cases okP y <;> simp
def eqSeq (xs ys : List D) : Option Bool := if oksP xs = true ∧ oksP ys = true ∧ PyData.depthAll (toPys xs) ≤ 63 ∧ PyData.depthAll (toPys ys) ≤ 63 then some (PyData.eqvAll (toPys xs) (toPys ys)) else none
@[simp] theorem r_eqSeq (xs ys : List D) : eqSeq xs ys = if oksP xs = true ∧ oksP ys = true ∧ PyData.depthAll (toPys xs) ≤ 63 ∧ PyData.depthAll (toPys ys) ≤ 63 then some (PyData.eqvAll (toPys xs) (toPys ys)) else none := id rfl
theorem eqD_tup (xs ys : List D) : eqD (.tup xs) (.tup ys) = eqSeq xs ys := by
  show eqP (.tup xs) (.tup ys) = _
  rw [eqP_eq]
  unfold eqSeq
  simp
def eqLs (xs ys : List D) : Option Bool := match eqSeq xs ys with
  | some b => some b
  | none => if xs.length = ys.length then none else some false
@[simp] theorem r_eqLs (xs ys : List D) : eqLs xs ys = match eqSeq xs ys with
  | some b => some b
  | none => if xs.length = ys.length then none else some false := id rfl
theorem eqD_lst (xs ys : List D) : eqD (.lst xs) (.lst ys) = eqLs xs ys := by
  have e : eqP (.lst xs) (.lst ys) = eqSeq xs ys := by
    rw [eqP_eq]
    unfold eqSeq
    simp
  show (match eqP (.lst xs) (.lst ys) with
    | some b => some b
    | none => if xs.length = ys.length then none else some false) = _
  rw [e]
  rfl
def obl (o : Option Bool) : Option D := match o with
  | some b => some (.bl b)
  | none => none
def obln (o : Option Bool) : Option D := match o with
  | some b => some (.bl (!b))
  | none => none
@[simp] theorem obl_s (b : Bool) : obl (some b) = some (.bl b) := id rfl
@[simp] theorem obl_n : obl none = none := id rfl
@[simp] theorem obln_s (b : Bool) : obln (some b) = some (.bl (!b)) := id rfl
@[simp] theorem obln_n : obln none = none := id rfl
@[simp] theorem r_gEqT (xs ys : List D) : gEq (.tup xs) (.tup ys) = obl (eqSeq xs ys) := by unfold gEq; rw [eqD_tup]; rfl
@[simp] theorem r_gNeT (xs ys : List D) : gNe (.tup xs) (.tup ys) = obln (eqSeq xs ys) := by unfold gNe; rw [eqD_tup]; rfl
@[simp] theorem r_gEqL (xs ys : List D) : gEq (.lst xs) (.lst ys) = obl (eqLs xs ys) := by unfold gEq; rw [eqD_lst]; rfl
@[simp] theorem r_gNeL (xs ys : List D) : gNe (.lst xs) (.lst ys) = obln (eqLs xs ys) := by unfold gNe; rw [eqD_lst]; rfl
theorem eqLs_nil (xs : List D) : eqLs xs [] = some xs.isEmpty := by
  cases xs with
  | nil => simp
  | cons x xs => simp only [r_eqLs, r_eqSeq]; split <;> simp_all
@[simp 1100] theorem r_gEqLn (xs : List D) : gEq (.lst xs) (.lst []) = some (.bl xs.isEmpty) := by rw [r_gEqL, eqLs_nil]; rfl
@[simp 1100] theorem r_gNeLn (xs : List D) : gNe (.lst xs) (.lst []) = some (.bl (!xs.isEmpty)) := by rw [r_gNeL, eqLs_nil]; rfl
@[simp] theorem r_gEqB (a b : Bool) : gEq (.bl a) (.bl b) = some (.bl (a == b)) := id rfl
@[simp] theorem r_gNeB (a b : Bool) : gNe (.bl a) (.bl b) = some (.bl (!(a == b))) := id rfl
@[simp] theorem r_gEqNN : gEq .non .non = some (.bl true) := id rfl
@[simp] theorem r_gEqNI (i : Int) : gEq .non (.int i) = some (.bl false) := id rfl
@[simp] theorem r_gEqIN (i : Int) : gEq (.int i) .non = some (.bl false) := id rfl
@[simp] theorem r_gNeNN : gNe .non .non = some (.bl false) := id rfl
@[simp] theorem r_gNeNI (i : Int) : gNe .non (.int i) = some (.bl true) := id rfl
@[simp] theorem r_gNeIN (i : Int) : gNe (.int i) .non = some (.bl true) := id rfl
def inSeq (x : D) (ds : List D) : Option Bool := if okP x = true ∧ oksP ds = true ∧ (toPy x).depth ≤ 64 then some (ds.any fun z => PyData.eqv (toPy z) (toPy x)) else none
theorem inP_eq (x : D) (ds : List D) : inP x ds = inSeq x ds := by
  unfold inP inSeq
  rw [py_eq, pys_eq]
  cases okP x <;> cases oksP ds <;> simp [toPys_map]
  rfl
@[simp] theorem r_inSeq (x : D) (ds : List D) : inSeq x ds = if okP x = true ∧ oksP ds = true ∧ (toPy x).depth ≤ 64 then some (ds.any fun z => PyData.eqv (toPy z) (toPy x)) else none := id rfl
theorem inD_tup (x : D) (ds : List D) : inD x (.tup ds) = inSeq x ds := by rw [← inP_eq]; cases x <;> rfl
theorem inD_lst (x : D) (ds : List D) : inD x (.lst ds) = inSeq x ds := by rw [← inP_eq]; cases x <;> rfl
@[simp] theorem r_gInT (x : D) (ds : List D) : gIn x (.tup ds) = obl (inSeq x ds) := by unfold gIn; rw [inD_tup]; rfl
@[simp] theorem r_gInL (x : D) (ds : List D) : gIn x (.lst ds) = obl (inSeq x ds) := by unfold gIn; rw [inD_lst]; rfl
@[simp] theorem r_gNotInT (x : D) (ds : List D) : gNotIn x (.tup ds) = obln (inSeq x ds) := by unfold gNotIn; rw [inD_tup]; rfl
@[simp] theorem r_gNotInL (x : D) (ds : List D) : gNotIn x (.lst ds) = obln (inSeq x ds) := by unfold gNotIn; rw [inD_lst]; rfl
@[simp] theorem r_gIn1 (c : Nat) (y : Str) : gIn (.str ⟨#[c]⟩) (.str y) = some (.bl (decide (c ∈ y.cps.toList))) := id rfl
@[simp] theorem r_gNotIn1 (c : Nat) (y : Str) : gNotIn (.str ⟨#[c]⟩) (.str y) = some (.bl (!decide (c ∈ y.cps.toList))) := id rfl
theorem any_strs (x : Str) : ∀ ys : List Str, ((ys.map D.str).any fun z => PyData.eqv (toPy z) (.str x)) = decide (x ∈ ys)
  | [] => by simp
  | y :: ys => by
    simp only [List.map_cons, List.any_cons, any_strs x ys, toPy_str, eqv_str, List.mem_cons]
    by_cases h1 : y = x <;> by_cases h2 : x ∈ ys <;> simp [h1, h2]
    intro h; exact h1 h.symm
theorem any_ints (x : Int) : ∀ ys : List Int, ((ys.map D.int).any fun z => PyData.eqv (toPy z) (.int x)) = decide (x ∈ ys)
  | [] => by simp
  | y :: ys => by
    simp only [List.map_cons, List.any_cons, any_ints x ys, toPy_int, eqv_int, List.mem_cons]
    by_cases h1 : y = x <;> by_cases h2 : x ∈ ys <;> simp [h1, h2]
    intro h; exact h1 h.symm
theorem in_strs {x : Str} {ys : List Str} (h1 : PyData.strOk x = true) (h2 : ys.all PyData.strOk = true) : inSeq (.str x) (ys.map D.str) = some (decide (x ∈ ys)) := by
  simp only [r_inSeq, okP_str, h1, oks_strs, h2, toPy_str, dp_str, any_strs]
  simp
theorem in_ints {x : Int} {ys : List Int} : inSeq (.int x) (ys.map D.int) = some (decide (x ∈ ys)) := by
  simp only [r_inSeq, okP_int, oks_ints, toPy_int, dp_int, any_ints]
  simp
/-! ### texts -/
@[simp] theorem r_walkStr (z : Str) : walkOf (.str z) = some (z.cps.toList.map fun c => .str ⟨#[c]⟩) := id rfl
@[simp] theorem r_walkLst (z : List D) : walkOf (.lst z) = some z := id rfl
@[simp] theorem r_walkTup (z : List D) : walkOf (.tup z) = some z := id rfl
@[simp] theorem r_gLenS (x : Str) : gLen [.str x] = if x.length ≤ sizeLine then some (.int x.length) else none := id rfl
@[simp] theorem r_idxS (z : Str) (i : Int) : dIdx (.str z) (.int i) = if z.length ≤ sizeLine then (atI z.cps.toList i).map fun c => .str ⟨#[c]⟩ else none := id rfl
@[simp] theorem r_gAddS (x y : Str) : gAdd (.str x) (.str y) = if x.length + y.length ≤ sizeLine then some (.str (x ++ y)) else none := id rfl
@[simp] theorem r_gAddL (x y : List D) : gAdd (.lst x) (.lst y) = if x.length + y.length ≤ sizeLine then some (.lst (x ++ y)) else none := id rfl
@[simp] theorem r_gAddT (x y : List D) : gAdd (.tup x) (.tup y) = if x.length + y.length ≤ sizeLine then some (.tup (x ++ y)) else none := id rfl
def smallC (c : Nat) : Bool := decide (97 ≤ c ∧ c ≤ 122)
def signC (c : Nat) : Bool := decide (97 ≤ c ∧ c ≤ 122) || decide (48 ≤ c ∧ c ≤ 57)
def SMALLs : Str := "abcdefghijklmnopqrstuvwxyz"
def SIGNs : Str := "abcdefghijklmnopqrstuvwxyz0123456789"
theorem small_mem (c : Nat) : decide (c ∈ (Str.ofString "abcdefghijklmnopqrstuvwxyz").cps.toList) = smallC c := by
  rw [lit_toList]
  simp only [smallC, decide_eq_decide]
  simp
  omega
theorem sign_mem (c : Nat) : decide (c ∈ (Str.ofString "abcdefghijklmnopqrstuvwxyz0123456789").cps.toList) = signC c := by
  rw [lit_toList]
  unfold signC
  rw [← Bool.decide_or, decide_eq_decide]
  simp
  omega
/-- a name -/
def nameOk (x : Str) : Bool := match x.cps.toList with
  | [] => false
  | c :: r => decide (r.length ≤ 7) && smallC c && (c :: r).all signC
theorem nameOk_ok {x : Str} (h : nameOk x = true) : PyData.strOk x = true := by
  unfold nameOk at h
  unfold PyData.strOk
  rw [← Array.all_toList]
  split at h
  · cases h
  · rename_i c r e
    rw [e, List.all_eq_true]
    simp only [Bool.and_eq_true, List.all_eq_true] at h
    intro z hz
    have := h.2 z hz
    unfold signC at this
    simp only [Bool.or_eq_true, decide_eq_true_eq] at this ⊢
    omega
theorem gAll_bls (bs : List Bool) : gAll [.lst (bs.map D.bl)] = some (.bl (bs.all id)) := by
  have h : ∀ bs : List Bool, blsD (bs.map D.bl) = some bs := fun bs => by
    induction bs with
    | nil => rfl
    | cons b bs ih => simp [blsD, ih]
  unfold gAll gOfBls
  show (match blsD (bs.map D.bl) with | some bs => some (D.bl (bs.all id)) | none => none) = _
  rw [h]
theorem gAny_bls (bs : List Bool) : gAny [.lst (bs.map D.bl)] = some (.bl (bs.any id)) := by
  have h : ∀ bs : List Bool, blsD (bs.map D.bl) = some bs := fun bs => by
    induction bs with
    | nil => rfl
    | cons b bs ih => simp [blsD, ih]
  unfold gAny gOfBls
  show (match blsD (bs.map D.bl) with | some bs => some (D.bl (bs.any id)) | none => none) = _
  rw [h]
@[simp] theorem lk_cons (a b : String) (d : D) (r : List (Str × D)) : List.lookup (Str.ofString a) ((Str.ofString b, d) :: r) = if a = b then some d else List.lookup (Str.ofString a) r := by
  rw [List.lookup_cons]
  by_cases h : a = b
  · subst h; simp
  · have : ¬ Str.ofString a = Str.ofString b := by rw [lit_inj]; exact h
    have hb : (Str.ofString a == Str.ofString b) = false := by simpa using h
    rw [hb]; simp [h]
@[simp] theorem lk_nil (a : Str) : List.lookup a ([] : List (Str × D)) = none := id rfl
theorem two_line : (2 : Nat) ≤ sizeLine := by rw [sizeLine_eq]; omega
end G
/-! Stepping through a body: one rule a statement. -/
namespace G
open PySem L2
section
variable {env e1 e2 : Ev} {M M1 M2 : Ms} {fa fb fc : EF} {ga : AF} {f rest body : SF} {c t u : TF} {g : GF} {fi : IF} {Q : Option Out → Prop} {α : Type} {np nN : Nat} {ss : List S} {d : D}
/-- a return; an end -/
def isR (s : S) (M' : Ms) (o : Option Out) : Prop := o = some (.rt s M')
def isE (M' : Ms) (o : Option Out) : Prop := ∃ e L, o = some (.nx e (M' ++ L))
theorem isE_of {M' : Ms} {e : Ev} {o : Option Out} (h : o = some (.nx e M')) : isE M' o := ⟨e, [], by rw [h, List.append_nil]⟩
theorem isE_app {M' L : Ms} {e : Ev} {o : Option Out} (h : o = some (.nx e (M' ++ L))) : isE M' o := ⟨e, L, h⟩
/-- a return of a tree, whatever is left behind -/
def isX (d : D) (M' : Ms) (o : Option Out) : Prop := ∃ L, o = some (.rt (.d d) (M' ++ L))
theorem isX_of {d : D} {M' : Ms} {o : Option Out} (h : o = some (.rt (.d d) M')) : isX d M' o := ⟨[], by rw [h, List.append_nil]⟩
theorem isX_app {d : D} {M' L : Ms} {o : Option Out} (h : o = some (.rt (.d d) (M' ++ L))) : isX d M' o := ⟨L, h⟩
theorem fn_x {M' : Ms} (hl : ss.length = np) (hm : M'.length = M.length) (h : isX d M' (body (env0 nN ss) M)) : fnD np nN body ss M = some (.d d, M') := by
  obtain ⟨L, h⟩ := h
  rw [r_fnD, if_pos hl, h]
  simp [← hm]
theorem fn_rt (hl : ss.length = np) (h : isR (.d d) M (body (env0 nN ss) M)) : fnD np nN body ss M = some (.d d, M) := by
  rw [r_fnD, if_pos hl, h]
  simp
theorem fn_rtA {L : Ms} (hl : ss.length = np) (h : isR (.d d) (M ++ L) (body (env0 nN ss) M)) : fnD np nN body ss M = some (.d d, M) := by
  rw [r_fnD, if_pos hl, h]
  simp
theorem fn_rtM {L M' : Ms} (hl : ss.length = np) (hm : M'.length = M.length) (h : isR (.d d) (M' ++ L) (body (env0 nN ss) M)) : fnD np nN body ss M = some (.d d, M') := by
  rw [r_fnD, if_pos hl, h]
  simp [← hm]
/-- what is given is a cell -/
theorem fn_rtH {L : Ms} {k : Nat} {c : Cell} (hl : ss.length = np) (hk : (M ++ L)[k]? = some c) (hM : M.length ≤ k) (h : isR (.hd k) (M ++ L) (body (env0 nN ss) M)) : fnD np nN body ss M = some (.d c.toD, M) := by
  rw [r_fnD, if_pos hl, h]
  simp only [r_frz_h, hk]
  have : M.length ≤ (List.set (M ++ L) k (Cell.frz c.toD)).length := by simp
  rw [if_pos this, List.set_append_right _ _ hM]
  simp
theorem fn_nx {M' : Ms} (hl : ss.length = np) (hm : M'.length = M.length) (h : isE M' (body (env0 nN ss) M)) : fnD np nN body ss M = some (.d .non, M') := by
  obtain ⟨e, L, h⟩ := h
  rw [r_fnD, if_pos hl, h]
  simp [← hm]
theorem seq_nx (h : f env M = some (.nx e1 M1)) (hr : Q (rest e1 M1)) : Q (sSeq f rest env M) := by
  rw [r_sSeq, h]; exact hr
theorem seq_rt {s : S} (h : isR s M1 (f env M)) : isR s M1 (sSeq f rest env M) := by
  unfold isR at h ⊢
  rw [r_sSeq, h]
theorem if_t (hc : c env M = some (true, M1)) (h : Q (f env M1)) : Q (sIf c f rest env M) := by
  rw [r_sIf, hc]; exact h
theorem if_f (hc : c env M = some (false, M1)) (h : Q (rest env M1)) : Q (sIf c f rest env M) := by
  rw [r_sIf, hc]; exact h
def turn (g : GF) (body : SF) (d : D) : SF := fun env M => match g (.d d) env M with
  | some (e1, M1) => body e1 M1
  | none => none
@[simp] theorem r_turn (g : GF) (body : SF) (d : D) : turn g body d env M = match g (.d d) env M with
  | some (e1, M1) => body e1 M1
  | none => none := id rfl
theorem forD_cons (d : D) (ds : List D) : forD g body (d :: ds) env M = match turn g body d env M with
  | some (.nx e2 M2) => forD g body ds e2 M2
  | some (.ct e2 M2) => forD g body ds e2 M2
  | some (.bk e2 M2) => some (.nx e2 M2)
  | some (.rt s M2) => some (.rt s M2)
  | none => none := by
  conv => lhs; unfold forD
  unfold turn
  cases g (.d d) env M with
  | none => rfl
  | some p => rfl
theorem forD_nil : forD g body [] env M = some (.nx env M) := by unfold forD; rfl
theorem for_P (din : α → D) : ∀ (xs : List α) (P : Nat → Ev → Ms → Prop) (env : Ev) (M : Ms), P 0 env M → (∀ i x env M, xs[i]? = some x → P i env M → ∃ e2 M2, (turn g body (din x) env M = some (.nx e2 M2) ∨ turn g body (din x) env M = some (.ct e2 M2)) ∧ P (i + 1) e2 M2) →
    ∃ e2 M2, forD g body (xs.map din) env M = some (.nx e2 M2) ∧ P xs.length e2 M2
  | [], P, env, M, h0, _ => ⟨env, M, forD_nil, h0⟩
  | x :: xs, P, env, M, h0, hs => by
    obtain ⟨e2, M2, k1, k2⟩ := hs 0 x env M rfl h0
    obtain ⟨e3, M3, h1, h2⟩ := for_P din xs (fun i => P (i + 1)) e2 M2 k2 fun i x env M hi h => hs (i + 1) x env M (by simpa using hi) h
    refine ⟨e3, M3, ?_, h2⟩
    rw [List.map_cons, forD_cons]
    rcases k1 with k1 | k1 <;> simp only [k1, h1]
/-- .. by a return at the k-th -/
theorem for_PR (din : α → D) {s : S} {Mr : Ms} : ∀ (xs : List α) (k : Nat) (P : Nat → Ev → Ms → Prop) (env : Ev) (M : Ms), k < xs.length → P 0 env M → (∀ i x env M, i < k → xs[i]? = some x → P i env M → ∃ e2 M2, (turn g body (din x) env M = some (.nx e2 M2) ∨ turn g body (din x) env M = some (.ct e2 M2)) ∧ P (i + 1) e2 M2) →
    (∀ x env M, xs[k]? = some x → P k env M → turn g body (din x) env M = some (.rt s Mr)) → forD g body (xs.map din) env M = some (.rt s Mr)
  | [], k, P, env, M, hk, _, _, _ => by simp at hk
  | x :: xs, 0, P, env, M, hk, h0, hs, hr => by
    rw [List.map_cons, forD_cons, hr x env M rfl h0]
  | x :: xs, k + 1, P, env, M, hk, h0, hs, hr => by
    obtain ⟨e2, M2, k1, k2⟩ := hs 0 x env M (by omega) rfl h0
    have ih := for_PR din xs k (fun i => P (i + 1)) e2 M2 (by simpa using hk) k2 (fun i x env M hi hx h => hs (i + 1) x env M (by omega) (by simpa using hx) h) fun x env M hx h => hr x env M (by simpa using hx) h
    rw [List.map_cons, forD_cons]
    rcases k1 with k1 | k1 <;> simp only [k1, ih]
theorem seq_forP (xs : List α) (din : α → D) (P : Nat → Ev → Ms → Prop) (hi : fi env M = some (xs.map din, M1)) (h0 : P 0 env M1) (hs : ∀ i x env M, xs[i]? = some x → P i env M → ∃ e2 M2, (turn g body (din x) env M = some (.nx e2 M2) ∨ turn g body (din x) env M = some (.ct e2 M2)) ∧ P (i + 1) e2 M2)
    (hr : ∀ e M, P xs.length e M → Q (rest e M)) : Q (sSeq (sFor fi g body) rest env M) := by
  obtain ⟨e2, M2, k1, k2⟩ := for_P (g := g) (body := body) din xs P env M1 h0 hs
  refine seq_nx ?_ (hr e2 M2 k2)
  rw [r_sFor, hi]
  exact k1
theorem seq_forPR (xs : List α) (din : α → D) (P : Nat → Ev → Ms → Prop) {s : S} {Mr : Ms} (k : Nat) (hk : k < xs.length) (hi : fi env M = some (xs.map din, M1)) (h0 : P 0 env M1) (hs : ∀ i x env M, i < k → xs[i]? = some x → P i env M → ∃ e2 M2, (turn g body (din x) env M = some (.nx e2 M2) ∨ turn g body (din x) env M = some (.ct e2 M2)) ∧ P (i + 1) e2 M2)
    (hr : ∀ x env M, xs[k]? = some x → P k env M → turn g body (din x) env M = some (.rt s Mr)) : isR s Mr (sSeq (sFor fi g body) rest env M) := by
  refine seq_rt ?_
  unfold isR
  rw [r_sFor, hi]
  exact for_PR din xs k P env M1 hk h0 hs hr
/-- states by turns; slots of no account: z, w -/
theorem seq_for1 (xs : List α) (din : α → D) (E : Nat → Option S → Ev) (Mf : Nat → Ms) (z : Option S) (hi : fi env M = some (xs.map din, M1)) (hE : env = E 0 z) (hM : M1 = Mf 0)
    (hs : ∀ i x z, xs[i]? = some x → ∃ z', turn g body (din x) (E i z) (Mf i) = some (.nx (E (i + 1) z') (Mf (i + 1))))
    (hr : ∀ z, Q (rest (E xs.length z) (Mf xs.length))) : Q (sSeq (sFor fi g body) rest env M) := by
  subst hE hM
  refine seq_forP xs din (fun i e M => ∃ z, e = E i z ∧ M = Mf i) hi ⟨z, rfl, rfl⟩ ?_ ?_
  · rintro i x _ _ hx ⟨z, rfl, rfl⟩
    obtain ⟨z', h⟩ := hs i x z hx
    exact ⟨_, _, .inl h, z', rfl, rfl⟩
  · rintro _ _ ⟨z, rfl, rfl⟩
    exact hr z
theorem seq_for2 (xs : List α) (din : α → D) (E : Nat → Option S → Option S → Ev) (Mf : Nat → Ms) (z w : Option S) (hi : fi env M = some (xs.map din, M1)) (hE : env = E 0 z w) (hM : M1 = Mf 0)
    (hs : ∀ i x z w, xs[i]? = some x → ∃ z' w', turn g body (din x) (E i z w) (Mf i) = some (.nx (E (i + 1) z' w') (Mf (i + 1))))
    (hr : ∀ z w, Q (rest (E xs.length z w) (Mf xs.length))) : Q (sSeq (sFor fi g body) rest env M) := by
  subst hE hM
  refine seq_forP xs din (fun i e M => ∃ z w, e = E i z w ∧ M = Mf i) hi ⟨z, w, rfl, rfl⟩ ?_ ?_
  · rintro i x _ _ hx ⟨z, w, rfl, rfl⟩
    obtain ⟨z', w', h⟩ := hs i x z w hx
    exact ⟨_, _, .inl h, z', w', rfl, rfl⟩
  · rintro _ _ ⟨z, w, rfl, rfl⟩
    exact hr z w
theorem seq_for3 (xs : List α) (din : α → D) (E : Nat → Option S → Option S → Option S → Ev) (Mf : Nat → Ms) (z w u : Option S) (hi : fi env M = some (xs.map din, M1)) (hE : env = E 0 z w u) (hM : M1 = Mf 0)
    (hs : ∀ i x z w u, xs[i]? = some x → ∃ z' w' u', turn g body (din x) (E i z w u) (Mf i) = some (.nx (E (i + 1) z' w' u') (Mf (i + 1))))
    (hr : ∀ z w u, Q (rest (E xs.length z w u) (Mf xs.length))) : Q (sSeq (sFor fi g body) rest env M) := by
  subst hE hM
  refine seq_forP xs din (fun i e M => ∃ z w u, e = E i z w u ∧ M = Mf i) hi ⟨z, w, u, rfl, rfl⟩ ?_ ?_
  · rintro i x _ _ hx ⟨z, w, u, rfl, rfl⟩
    obtain ⟨z', w', u', h⟩ := hs i x z w u hx
    exact ⟨_, _, .inl h, z', w', u', rfl, rfl⟩
  · rintro _ _ ⟨z, w, u, rfl, rfl⟩
    exact hr z w u
end
theorem enum_get {ds : List D} {i : Nat} {d : D} (h : (enumD ds)[i]? = some d) : ∃ x, ds[i]? = some x ∧ d = .tup [.int (i : Nat), x] := by
  unfold enumD at h
  rw [List.getElem?_zipWith] at h
  cases e : ds[i]? with
  | none => rw [e] at h; simp at h
  | some x =>
    have hi : i < ds.length := (List.getElem?_eq_some_iff.mp e).1
    rw [e, List.getElem?_range hi] at h
    exact ⟨x, rfl, by simpa using h.symm⟩
theorem enum_len (ds : List D) : (enumD ds).length = ds.length := by unfold enumD; simp
/-- enumerate over pictures -/
theorem enum_map {α : Type} (xs : List α) (f : α → D) : enumD (xs.map f) = ((List.range xs.length).zip xs).map fun p => .tup [.int ((p.1 : Nat) : Int), f p.2] := by
  unfold enumD
  rw [List.length_map, List.zipWith_map_right, List.zip, List.map_zipWith]
theorem zip_get {α : Type} {xs : List α} {i : Nat} {p : Nat × α} (h : ((List.range xs.length).zip xs)[i]? = some p) : p.1 = i ∧ xs[i]? = some p.2 := by
  rw [List.zip, List.getElem?_zipWith] at h
  cases e : xs[i]? with
  | none => rw [e] at h; simp at h
  | some x =>
    have hi : i < xs.length := (List.getElem?_eq_some_iff.mp e).1
    rw [e, List.getElem?_range hi] at h
    simp at h
    subst h
    exact ⟨rfl, rfl⟩
theorem cut_take {ds : List D} {i : Nat} : cutD ds none (some (i : Nat)) = ds.take i := by
  have h0 : ¬ ((i : Nat) : Int) < 0 := by omega
  unfold cutD HT.sIx
  simp [h0]
theorem cut_drop {ds : List D} {i : Nat} : cutD ds (some (i : Nat)) none = ds.drop i := by
  have h0 : ¬ ((i : Nat) : Int) < 0 := by omega
  unfold cutD HT.sIx
  simp [h0]
  by_cases h : i ≤ ds.length
  · rw [Nat.min_eq_left h, List.take_of_length_le (by simp)]
  · rw [Nat.min_eq_right (by omega)]
    simp
    omega
theorem gAtI_last {α : Type} (xs : List α) (x : α) : atI (xs ++ [x]) (-1) = some x := by
  have h1 : (1 : Int) ≤ (xs.length : Int) + 1 := by omega
  have h2 : (-1 + ((xs.length : Int) + 1)).toNat = xs.length := by omega
  unfold atI ixN
  simp [h1, h2]
theorem gIndex_eq (ds : List D) (y : D) : gIndex (.lst ds) y = if oksP ds = true ∧ okP y = true ∧ PyData.depthAll (toPys ds) ≤ 63 ∧ (toPy y).depth ≤ 64 then (firstIx (fun z => PyData.eqv z (toPy y)) (toPys ds)).map fun j => .int (j : Nat) else none := by
  have e : gIndex (.lst ds) y = match pys ds with
    | some xs => match D.py y with
      | some d => if (PyData.list xs).depth ≤ 64 ∧ d.depth ≤ 64 then (firstIx (fun z => PyData.eqv z d) xs).map fun j => .int (j : Nat) else none
      | none => none
    | none => none := rfl
  rw [e, pys_eq, py_eq]
  cases oksP ds <;> cases okP y <;> simp
theorem firstIx_strs (x : Str) : ∀ {ys : List Str}, x ∈ ys → firstIx (fun z => PyData.eqv z (.str x)) (toPys (ys.map .str)) = some (ys.idxOf x)
  | [], h => by simp at h
  | y :: ys, h => by
    by_cases e : y = x
    · subst e
      simp [firstIx]
    · have h' : x ∈ ys := by
        rcases List.mem_cons.mp h with rfl | h
        · exact absurd rfl e
        · exact h
      have ih := firstIx_strs x h'
      simp only [List.map_cons, toPys_cons, toPy_str, firstIx, eqv_str, e, decide_false, Bool.false_eq_true, if_false, ih]
      rw [List.idxOf_cons, show (y == x) = false by simpa using e]
      simp
theorem gIndex_strs {x : Str} {ys : List Str} (h : x ∈ ys) (hx : PyData.strOk x = true) (hy : ys.all PyData.strOk = true) : gIndex (.lst (ys.map .str)) (.str x) = some (.int (ys.idxOf x : Nat)) := by
  rw [gIndex_eq]
  simp only [oks_strs, hy, okP_str, hx, toPy_str, dp_strs, dp_str]
  rw [firstIx_strs x h]
  simp
@[simp] theorem take_app1 {α : Type} (M : List α) (a : α) (r : List α) : List.take (M.length + 1) (M ++ a :: r) = M ++ [a] := by
  rw [List.take_append, List.take_of_length_le (by omega)]
  have : M.length + 1 - M.length = 1 := by omega
  rw [this]; rfl
@[simp] theorem take_app2 {α : Type} (M : List α) (a b : α) (r : List α) : List.take (M.length + 2) (M ++ a :: b :: r) = M ++ [a, b] := by
  rw [List.take_append, List.take_of_length_le (by omega)]
  have : M.length + 2 - M.length = 2 := by omega
  rw [this]; rfl
end G
/-! try that runs through; list(range(..)). -/
namespace G
open PySem L2
section
variable {W : Wd} {N : List Str} {sc : Scp} {a b c : Expr} {fa fb fc : EF} {es : List Expr} {ga : AF} {pos : Pos} {tg : Expr} {sts : List Stmt} {f : SF}
theorem ds_try {h0 : ExceptHandler} {hds : List ExceptHandler} (h : DB W N sc sts f) : DS W N sc (.Try sts (h0 :: hds) [] [] pos) f := fun X gd => ps_try_never (u := tNext) (fun e s => by rw [gd.xe]; exact id) (h X gd) pss_nil
/-- a if c else b, tested -/
def tIf_ (c f g : TF) : TF := fun env M => match c env M with
  | some (true, M1) => f env M1
  | some (false, M1) => g env M1
  | none => none
@[simp] theorem r_tIf (c f g : TF) (env : Ev) (M : Ms) : tIf_ c f g env M = match c env M with
  | some (true, M1) => f env M1
  | some (false, M1) => g env M1
  | none => none := id rfl
theorem pt_if {X : Cx} {c a b : Expr} {tC ta tb : TT} {pos : Pos} (hc : PT X c tC) (ha : PT X a ta) (hb : PT X b tb) : PT X (.IfExp c a b pos) (fun σ H Q => tC σ H fun d H1 => if d = true then ta σ H1 Q else tb σ H1 Q) := by
  refine ⟨fun pins s σ H Q I h => ?_⟩
  refine PyProof.Rows.isTrue_IfExp (thn (hc.run pins s σ H _ I h) fun d s1 ⟨H1, I1, q1⟩ => ?_)
  cases d with
  | true => exact ha.run pins s1 σ H1 Q I1 q1
  | false => exact hb.run pins s1 σ H1 Q I1 q1
theorem dt_if {ct ft gt : TF} (hc : DT W N sc c ct) (ha : DT W N sc a ft) (hb : DT W N sc b gt) : DT W N sc (.IfExp c a b pos) (tIf_ ct ft gt) := by
  intro X gd
  refine PT.imp (pt_if (hc X gd) (ha X gd) (hb X gd)) fun σ H Q h => ?_
  obtain ⟨env, M, b', M', F, κ, e, t, er, k⟩ := h
  unfold tIf_ at e
  split at e
  · rename_i M1 e1
    refine ⟨env, M, true, M1, F, κ, e1, t, er, fun F1 κ1 H1 x1 t1 => ?_⟩
    exact ⟨env, M1, b', M', F1, κ1, e, t1, er.ext x1, fun F2 κ2 H2 x2 t2 => k F2 κ2 H2 (x1.trans x2) t2⟩
  · rename_i M1 e1
    refine ⟨env, M, false, M1, F, κ, e1, t, er, fun F1 κ1 H1 x1 t1 => ?_⟩
    exact ⟨env, M1, b', M', F1, κ1, e, t1, er.ext x1, fun F2 κ2 H2 x2 t2 => k F2 κ2 H2 (x1.trans x2) t2⟩
  · cases e
theorem rgV_rep {K : PySem.W.Frag} {cA : Str → Option Addr} {F : Hp} (i j : Int) : Reps K cA F (rgV i j) (rangeD i (j - i).toNat) := by
  have : rgV i j = ((List.range (j - i).toNat).map fun (k : Nat) => i + (k : Nat)).map V.int := by unfold rgV; rw [List.map_map]; rfl
  have h2 : rangeD i (j - i).toNat = ((List.range (j - i).toNat).map fun (k : Nat) => i + (k : Nat)).map D.int := by unfold rangeD; rw [List.map_map]; rfl
  rw [this, h2]
  exact Reps.ints
def cRg1 (fa : EF) : CF := fun env M => match fa env M with
  | some (s, M1) => match view M1 s with
    | some (.int n) => if -(2 ^ 62) ≤ n ∧ n ≤ 2 ^ 24 then some (.lst (rangeD 0 n.toNat), M1) else none
    | _ => none
  | none => none
def cRg2 (fa fb : EF) : CF := fun env M => match fa env M with
  | some (s, M1) => match fb env M1 with
    | some (s', M2) => match view M2 s with
      | some (.int i) => match view M2 s' with
        | some (.int j) => if 0 ≤ i ∧ i ≤ 2 ^ 24 ∧ -(2 ^ 62) ≤ j ∧ j ≤ 2 ^ 24 then some (.lst (rangeD i (j - i).toNat), M2) else none
        | _ => none
      | _ => none
    | none => none
  | none => none
theorem df_rg1 {p p2 q : Pos} (hl : Free W sc "list") (hf : Free W sc "range") (hst : notStar a = true) (ha : DE W N sc a fa) : DF W N sc (.Call (.Name "list" p) [.Call (.Name "range" p2) [a] [] q] [] pos) (cRg1 fa) := by
  intro X gd
  refine PE.imp (pe_listRg gd.calm (gd.gl hl.1) (by rw [gd.mg]; exact hl.2) (prg_1 (gd.gl hf.1) (by rw [gd.mg]; exact hf.2) (ha X gd) (star1 hst _)) (star1 (by rfl) _)) fun σ H Q h => ?_
  obtain ⟨env, M, c0, M', F, κ, e, t, er, k⟩ := h
  unfold cRg1 at e
  split at e
  rotate_left
  · cases e
  rename_i s M1 e1
  split at e
  rotate_left
  · cases e
  rename_i n e2
  split at e
  rotate_left
  · cases e
  rename_i hb
  simp only [Option.some.injEq, Prod.mk.injEq] at e
  obtain ⟨rfl, rfl⟩ := e
  refine ⟨env, M, s, M1, F, κ, e1, t, er, fun F1 κ1 H1 v x1 t1 r => ?_⟩
  obtain rfl := (t1.view r e2).int_
  refine ⟨n, rfl, ⟨by decide, by decide, by omega, by omega, by omega⟩, fun q hq => ?_⟩
  have hr := rgV_rep (K := W.K) (cA := W.cA) (F := F1) 0 n
  rw [Int.sub_zero] at hr
  exact k F1 κ1 _ q x1 (t1.new (New.oneH t1.sub hq)) (t1.fresh hq) rfl ⟨t1.sub.none hq, _, upd_same, hr⟩
theorem df_rg2 {p p2 q : Pos} (hl : Free W sc "list") (hf : Free W sc "range") (hst : notStar a = true) (hst2 : notStar b = true) (ha : DE W N sc a fa) (hb : DE W N sc b fb) : DF W N sc (.Call (.Name "list" p) [.Call (.Name "range" p2) [a, b] [] q] [] pos) (cRg2 fa fb) := by
  intro X gd
  refine PE.imp (pe_listRg gd.calm (gd.gl hl.1) (by rw [gd.mg]; exact hl.2) (prg_2 (gd.gl hf.1) (by rw [gd.mg]; exact hf.2) (ha X gd) (hb X gd) (star_cons hst _ _) (star1 hst2 _) (by rw [star1 hst2]; rfl)) (star1 (by rfl) _)) fun σ H Q h => ?_
  obtain ⟨env, M, c0, M', F, κ, e, t, er, k⟩ := h
  unfold cRg2 at e
  split at e
  rotate_left
  · cases e
  rename_i s M1 e1
  split at e
  rotate_left
  · cases e
  rename_i s2 M2 e2
  split at e
  rotate_left
  · cases e
  rename_i i e3
  split at e
  rotate_left
  · cases e
  rename_i j e4
  split at e
  rotate_left
  · cases e
  rename_i hb
  simp only [Option.some.injEq, Prod.mk.injEq] at e
  obtain ⟨rfl, rfl⟩ := e
  refine ⟨env, M, s, M1, F, κ, e1, t, er, fun F1 κ1 H1 v x1 t1 r => ?_⟩
  refine ⟨env, M1, s2, M2, F1, κ1, e2, t1, er.ext x1, fun F2 κ2 H2 w x2 t2 rw' => ?_⟩
  obtain rfl := (t2.view (r.ext x2) e3).int_
  obtain rfl := (t2.view rw' e4).int_
  refine ⟨i, j, rfl, rfl, ⟨by omega, by omega, by omega, by omega, by omega⟩, fun q hq => ?_⟩
  have hr := rgV_rep (K := W.K) (cA := W.cA) (F := F2) i j
  exact k F2 κ2 _ q (x1.trans x2) (t2.new (New.oneH t2.sub hq)) (t2.fresh hq) rfl ⟨t2.sub.none hq, _, upd_same, hr⟩
@[simp] theorem r_cRg1 {env : Ev} {M : Ms} : cRg1 fa env M = match fa env M with
  | some (s, M1) => match view M1 s with
    | some (.int n) => if -(2 ^ 62) ≤ n ∧ n ≤ 2 ^ 24 then some (.lst (rangeD 0 n.toNat), M1) else none
    | _ => none
  | none => none := id rfl
@[simp] theorem r_cRg2 {env : Ev} {M : Ms} : cRg2 fa fb env M = match fa env M with
  | some (s, M1) => match fb env M1 with
    | some (s', M2) => match view M2 s with
      | some (.int i) => match view M2 s' with
        | some (.int j) => if 0 ≤ i ∧ i ≤ 2 ^ 24 ∧ -(2 ^ 62) ≤ j ∧ j ≤ 2 ^ 24 then some (.lst (rangeD i (j - i).toNat), M2) else none
        | _ => none
      | _ => none
    | none => none
  | none => none := id rfl
end
section
variable {fa : List Fx} {cs : List Str} {W : Wd} {N : List Str} {sc : Scp} {a b : Expr} {f1 f2 : EF} {pos p p2 q : Pos}
theorem f_rg1 (L : Low fa cs W) (m : Fx.free "list" ∈ fa) (m2 : Fx.free "range" ∈ fa) (g : gOk sc "list" = true) (g2 : gOk sc "range" = true) (hst : notStar a = true) (ha : DE W N sc a f1) : DF W N sc (.Call (.Name "list" p) [.Call (.Name "range" p2) [a] [] q] [] pos) (cRg1 f1) := df_rg1 (L.free_ g m) (L.free_ g2 m2) hst ha
theorem f_rg2 (L : Low fa cs W) (m : Fx.free "list" ∈ fa) (m2 : Fx.free "range" ∈ fa) (g : gOk sc "list" = true) (g2 : gOk sc "range" = true) (hst : notStar a = true) (hst2 : notStar b = true) (ha : DE W N sc a f1) (hb : DE W N sc b f2) : DF W N sc (.Call (.Name "list" p) [.Call (.Name "range" p2) [a, b] [] q] [] pos) (cRg2 f1 f2) := df_rg2 (L.free_ g m) (L.free_ g2 m2) hst hst2 ha hb
end
end G
/-! enumerate over tuples. -/
namespace G
open PySem L2 PyProof.Rows
open PySem.W
set_option maxHeartbeats 1000000 in
theorem meets_enumerate_newB1 {v : Value} {o : Obj} {H : Heap → Prop} (B : Begins v o H) :
    Meets (Builtin.«enumerate.__new__» ⟨[.type "enumerate", v], []⟩) (fun _ R s => H s.heap ∧
      R (.ok (.ret (.ref (s.heap.push o).objs.size))) { s with heap := (s.heap.push o).push { cls := .type "enumerate", data := .fields #[.none, .bool false, .ref s.heap.objs.size, rawInt 0, .none, .none] } }) :=
  .of_wp fun prog w A R s h => by
    obtain ⟨hp, g, d, tk, os⟩ := s; obtain ⟨h1, h⟩ := h
    have hsub := sub_enumerate
    have q1 : ∀ {A' : Around} {E : Value → Shared → Prop} {Q : Value → Shared → Prop}, Q (.ref hp.objs.size) ⟨hp.push o, g, d, tk, os⟩ → wpAny (model prog w) A' (pyIter v) Q E ⟨hp, g, d, tk, os⟩ :=
      fun q => B.iter prog w _ _ ⟨hp, g, d, tk, os⟩ _ h1 q
    wp_walk using q1
    refine wpAny_stack_any fun st => wpAny_pure ?_
    split
    · rename_i c _ _ _ _ _
      cases (c == Value.type "enumerate")
      · wp_walk using q1
        exact ⟨_, rfl, h⟩
      · wp_walk using q1
        exact ⟨_, rfl, h⟩
    · wp_walk using q1
      exact ⟨_, rfl, h⟩
theorem call_enumerate_B {prog : Program} {w : World} {A : Around} {E : Value → Shared → Prop} {s : Shared} {v : Value} {o : Obj} {H : Heap → Prop} {Q : Value → Shared → Prop} (B : Begins v o H) (h1 : H s.heap)
    (h : ∀ h', IsEnum h' (s.heap.objs.size + 1) s.heap.objs.size 0 .none → h'.get? s.heap.objs.size = some o → h'.objs.size = s.heap.objs.size + 2 →
      (∀ b o, s.heap.get? b = some o → h'.get? b = some o) → Q (.ref (s.heap.objs.size + 1)) { s with heap := h' }) :
    wpAny (model prog w) A (call (.type "enumerate") [v]) Q E s := by
  refine callType_new F.called_enumerate (by decide) (F.typeCall_enumerate_1 _) (F.newCall_enumerate_1 _) (fun obj => F.args_object_init_2 obj _) F.entry_enumerate_new
    (meets_enumerate_newB1 B) ⟨h1, ?_⟩
  have hz : (s.heap.push o).objs.size = s.heap.objs.size + 1 := Heap.size_push ..
  show _ ∧ _
  rw [hz]
  have he : IsEnum ((s.heap.push o).push { cls := .type "enumerate", data := .fields #[.none, .bool false, .ref s.heap.objs.size, rawInt 0, .none, .none] }) (s.heap.objs.size + 1) s.heap.objs.size 0 .none := by
    have := Heap.get?_push_size (s.heap.push o) (o := { cls := .type "enumerate", data := .fields #[.none, .bool false, .ref s.heap.objs.size, rawInt 0, .none, .none] }) rfl
    rw [hz] at this; exact this
  refine ⟨⟨_, he, rfl⟩, h _ he (Heap.get?_push_of_some _ (Heap.get?_push_size _ B.free)) (by rw [Heap.size_push, hz]) fun b o x => Heap.get?_push_of_some _ (Heap.get?_push_of_some _ x)⟩
theorem pyNext_enum_end_tuple {prog : Program} {w : World} {A : Around} {E : Value → Shared → Prop} {s : Shared} {e it a : Addr} {i : Nat} {k : Int} {items : Array Value} {old : Value} {Q : Option Value → Shared → Prop}
    (hh : A.handled = none) (he : IsEnum s.heap e it k old) (hit : s.heap.IsTupleIter it a i) (ht : s.heap.IsTuple a items) (hx : items[i]? = none)
    (hQ : ∀ h', Heap.ExtBut it s.heap h' → Q none { s with heap := h' }) : wpAny (model prog w) A (pyNext (.ref e)) Q E s := by
  have hT : s.TypeIs (.ref e) "enumerate" := ⟨_, he, rfl⟩
  unfold pyNext
  refine wpAny_bind (wpAny_attempt (wpAny_callSpecial?_slot (name := Str.ofString "__next__") hT F.slot_enumerate_next
    (wpAny_call_entry F.slot_enumerate_next hT F.entry_enumerate_next ?_ (F.args_enumerate_next_1 _))))
  show wpAny _ _ (field (.ref e) 2 >>= _) _ _ _
  refine wpAny_bind (wpAny_field he rfl (x := .ref it) rfl ?_)
  refine wpAny_bind (wpAny_nextOf_tuple_end hh hit ht hx fun h' x he' hx' => ?_)
  obtain ⟨o, ho, hc⟩ := hx'
  refine wpAny_bind (wpAny_isInstance (T := "StopIteration") (b := true) ⟨o, ho, hc⟩ isSubtype_stop ?_)
  exact wpAny_pure (hQ _ he')
/-- the tuple at a at each turn, each item in a new pair -/
def IteT (K : PySem.W.Frag) (a : Addr) : It :=
  ⟨fun i H => ∃ (xs : List V) (x : V), SqT K H a xs ∧ xs[i]? = some x, fun i H v H' => ∃ T x, v = .ref T ∧ H T = none ∧ H' = upd H T (.tup [.int (i : Nat), x]) ∧ ∀ xs, SqT K H a xs → xs[i]? = some x, fun i H => ∃ xs : List V, SqT K H a xs ∧ xs.length ≤ i⟩
theorem turn_enumT {P : Program} {w : World} {K : PySem.W.Frag} {elts : List Expr} {kk : Nat} {tpos : Pos} (a e it : Addr) :
    Turn P w K (.Tuple elts kk tpos) (IteT K a) [e, it] e (fun i h => (∃ old, IsEnum h e it ((i : Nat) : Int) old) ∧ h.IsTupleIter it a i ∧ e ≠ it) where
  mem := by simp
  obj := fun i h st b hb => by
    obtain ⟨⟨old, he⟩, ⟨o, ho, hc, hd⟩, _⟩ := st
    have e' : b = e ∨ b = it := by simpa using hb
    rcases e' with z | z
    · rw [z]; exact ⟨_, he, fun v q => nomatch q⟩
    · rw [z]; exact ⟨o, ho, fun v q => by rw [hd] at q; cases q⟩
  keep := fun i h h' st k => let ⟨⟨old, he⟩, hi, hne⟩ := st; ⟨⟨old, k e (by simp) _ he⟩, hi.at fun o q => k it (by simp) o q, hne⟩
  item := by
    intro X hP hw hK hc i pins s σ H E I hf st hg
    subst hP hw hK
    obtain ⟨⟨old, he⟩, hit, hne⟩ := st
    obtain ⟨xs, x, hq, hx⟩ := hg
    obtain ⟨its, rv, p, hz⟩ := I.tuple hq
    obtain ⟨u, hu, ru⟩ := rv.get hx
    have hel : e < s.heap.objs.size := Heap.lt_size he
    have hil : it < s.heap.objs.size := by obtain ⟨_, q, _⟩ := hit; exact Heap.lt_size q
    have hpt : s.heap.IsTuple a its.toArray := p
    have hia : a ≠ it := fun z => by
      obtain ⟨o1, q1, c1, d1⟩ := hit
      obtain ⟨o2, q2, c2, n2, d2⟩ := hpt
      rw [z, q1] at q2; cases q2
      rw [d1] at d2; cases d2
    have hea : e ∉ ([it, a] : List Addr) := fun z => by
      rcases List.mem_cons.mp z with z | z
      · exact hne z
      · have z : e = a := by simpa using z
        obtain ⟨o2, q2, c2, n2, d2⟩ := hpt
        rw [← z] at q2
        rw [show s.heap.get? e = _ from he] at q2; cases q2
        cases d2
    have hlt : i < its.toArray.size := by
      have := (List.getElem?_eq_some_iff.mp hu).1
      simpa using this
    refine wpAny_pyNext_enum_itemD (Draws.tuple (A := X.A.in1) (I.ok.hd hc) it a hia its.toArray) he ⟨hit, hpt⟩ hlt hne hea fun u' h' tk hP ho hst' hT hsz hk => ?_
    have hu' : u' = u := by
      rw [show its.toArray[i]? = some u by simpa using hu] at hP
      exact (Option.some.inj hP).symm
    subst hu'
    refine ⟨_, rfl, wpAny_letOwnedTupleGo_enum (s := { s with heap := h', toks := tk + 1 }) ho fun h'' he' sb => ?_⟩
    have hT2 : h''.get? s.heap.objs.size = some { cls := .type "tuple", data := .seq #[.int i tk, u'] } := (sb.2 _ (Nat.ne_of_gt hel)).trans hT
    have new : ObjOk X.prog X.w (upd H s.heap.objs.size (.tup [.int (i : Nat), x])) h'' s.heap.objs.size (.tup [.int (i : Nat), x]) :=
      ⟨by show 2 ≤ sizeLine; decide, [.int i tk, u'], .cons ⟨_, rfl⟩ (.cons ru .nil), ⟨_, hT2, rfl, _, rfl⟩⟩
    have I1 : Inv X pins σ (upd H s.heap.objs.size (.tup [.int (i : Nat), x])) { s with heap := h'', toks := tk + 1 } :=
      I.turnedNew (ch := [e, it]) (fun b ob hb q => (sb.2 b (fun z => hb (by simp [z]))).trans (hk b ob (fun z => hb (by simp [z])) (fun z => hb (by simp [z])) q)) hf (Nat.le_refl _) new
    refine ⟨.ref s.heap.objs.size, _, I1, rfl, ⟨_, x, rfl, I.hok.fresh (Nat.le_refl _), rfl, fun ys hy => by rw [I.tuple_inj hy hq]; exact hx⟩, ⟨⟨u', ?_⟩, hst'.1.at fun o q => (sb.2 it (Ne.symm hne)).trans q, hne⟩, fun b hb => ?_⟩
    · have e1 : ((i + 1 : Nat) : Int) = (i : Int) + 1 := by omega
      rw [e1]; exact he'
    · have hb' : b < s.heap.objs.size := by
        have e' : b = e ∨ b = it := by simpa using hb
        rcases e' with z | z
        · rw [z]; exact hel
        · rw [z]; exact hil
      rw [upd_ne (Nat.ne_of_lt hb')]
      exact (hf b hb).1
  done := by
    intro X hP hw hK hc i pins s σ H E I hf st hg
    subst hP hw hK
    obtain ⟨⟨old, he⟩, hit, hne⟩ := st
    obtain ⟨xs, hq, hx⟩ := hg
    obtain ⟨its, rv, p, hz⟩ := I.tuple hq
    obtain ⟨f0, f1, f2, f3, f4, f5⟩ := hf it (by simp)
    have hl := rv.length
    have hpt : s.heap.IsTuple a its.toArray := p
    have hn : its.toArray[i]? = none := by simp; omega
    refine pyNext_enum_end_tuple (I.ok.hd hc) he hit hpt hn fun h' eb => ⟨rfl, I.turned (t' := s.toks) (fun b o hb q => eb b o hb q) f0 f1 f3 f4 f5⟩
  self := fun A i s Q E st h => let ⟨⟨_, he⟩, _⟩ := st; wpAny_pyIter_enum he h
def iEnumT (K : PySem.W.Frag) (ta : TA) : TI := fun σ H R => ta σ H fun vs H1 => ∃ a xs, vs = [.ref a] ∧ SqT K H1 a xs ∧ R (IteT K a) H1
theorem pi_enumT {X : Cx} {e : Expr} {ta : TA} {p pos tpos : Pos} {elts : List Expr} {kk : Nat} (hg : Gl X "enumerate") (hm : X.mg "enumerate" = none) (ha : PA X [e] ta) (hs : starEach [e] X.env = [(false, eval e X.env)] := by rfl) :
    PI X (.Tuple elts kk tpos) (.Call (.Name "enumerate" p) [e] [] pos) (iEnumT X.K ta) := by
  refine ⟨fun pins s σ H R I h => ?_⟩
  refine Call_ (ld_blt I hg hm boot_enumerate (PyProof.Rows.callWith_type1 (thn (ha.run pos pins s σ H _ I h) fun us s1 ⟨vs, H1, I1, r1, q1⟩ => ?_) hs rfl))
  obtain ⟨a, xs, ex, hq, q⟩ := q1
  subst ex
  cases r1 with
  | cons r rr =>
    cases rr
    cases r
    obtain ⟨its, rv, p', hz⟩ := I1.tuple hq
    have hpt : s1.heap.IsTuple a its.toArray := p'
    refine call_enumerate_B (begins_tuple a its.toArray) hpt fun h' he hit hsz hk => wpAny_pyIter_enum he ?_
    have I2 : Inv X pins σ H1 { s1 with heap := h' } := I1.kept (t' := s1.toks) hk
    refine ⟨s1.heap.objs.size + 1, [s1.heap.objs.size + 1, s1.heap.objs.size], _, _, H1, rfl, I2, turn_enumT a (s1.heap.objs.size + 1) s1.heap.objs.size, ⟨⟨.none, he⟩, ⟨_, hit, rfl, rfl⟩, Nat.succ_ne_self _⟩, fun b hb => ?_, q⟩
    have e' : b = s1.heap.objs.size + 1 ∨ b = s1.heap.objs.size := by simpa using hb
    have hle : s1.heap.objs.size ≤ b := by
      rcases e' with z | z
      · rw [z]; exact Nat.le_add_right _ _
      · rw [z]; exact Nat.le_refl _
    exact I1.fpOk hle (I1.hok.fresh hle)
theorem walk_enumT {K : PySem.W.Frag} {a : Addr} {xs : List V} : Walk (IteT K a) xs.length (fun H => SqT K H a xs) (YPair (fun i => some (.int (i : Nat))) (fun i => xs[i]?)) := by
  refine ⟨fun i _ hi q => ⟨xs, xs[i], q, by simp [hi]⟩, fun _ q => ⟨xs, q, Nat.le_refl _⟩, fun i H v H' _ q y => ?_⟩
  obtain ⟨T, x, h1, h2, h3, h4⟩ := y
  exact ⟨T, .int (i : Nat), x, h1, h2, h3, rfl, h4 xs q⟩
section
variable {W : Wd} {N : List Str} {sc : Scp} {a b c : Expr} {f1 : EF} {pos : Pos} {tg : Expr}
theorem itok_enumT {F : Hp} {p : Addr} {vs : List V} {ds : List D} (hq : SqT W.K F p vs) (r : Reps W.K W.cA F vs ds) : ItOk W F (IteT W.K p) (enumD ds) := by
  refine ⟨_, _, by simp only [enumD, List.length_zipWith, List.length_range, Nat.min_self]; rw [← r.length]; exact walk_enumT (K := W.K) (a := p) (xs := vs), fun F1 H hs h1 => h1.sqT (hs.sqT hq), fun i H x H' F1 d hd hs h1 hy => ?_⟩
  obtain ⟨T, x1, y1, rfl, hT, rfl, hx, hy⟩ := hy
  cases hx
  obtain ⟨d1, hd1, rd⟩ := r.getV hy
  have hi : i < ds.length := (List.getElem?_eq_some_iff.mp hd1).1
  have : d = .tup [.int (i : Nat), d1] := by
    simp only [enumD, List.getElem?_zipWith, List.getElem?_range hi, hd1, Option.some.injEq] at hd
    exact hd.symm
  subst this
  exact new_pair (F := F) h1 hT (.int _) (rd.mono hs)
/-- enumerate of a list or a tuple -/
def iEnumA (fa : EF) : IF := fun env M => match fa env M with
  | some (s, M1) => match frz M1 s with
    | some (.lst ds, M2) => some (enumD ds, M2)
    | some (.tup ds, M2) => some (enumD ds, M2)
    | _ => none
  | none => none
@[simp] theorem r_iEnumA (fa : EF) (env : Ev) (M : Ms) : iEnumA fa env M = match fa env M with
  | some (s, M1) => match frz M1 s with
    | some (.lst ds, M2) => some (enumD ds, M2)
    | some (.tup ds, M2) => some (enumD ds, M2)
    | _ => none
  | none => none := id rfl
theorem di_enumA {p tpos : Pos} {elts : List Expr} {kk : Nat} (hf : Free W sc "enumerate") (hst : notStar a = true) (ha : DE W N sc a f1) : DI W N sc (.Tuple elts kk tpos) (.Call (.Name "enumerate" p) [a] [] pos) (iEnumA f1) := by
  intro X gd
  refine PI.imp (pi_or (pi_enum (gd.gl hf.1) (by rw [gd.mg]; exact hf.2) (pa_cons (ha X gd) pa_nil (star_cons hst _ _)) (star1 hst _)) (pi_enumT (gd.gl hf.1) (by rw [gd.mg]; exact hf.2) (pa_cons (ha X gd) pa_nil (star_cons hst _ _)) (star1 hst _))) fun σ H R h => ?_
  obtain ⟨env, M, ds, M', F, κ, e, t, er, k⟩ := h
  unfold iEnumA at e
  split at e
  rotate_left
  · cases e
  rename_i s M1 e1
  split at e
  · rename_i ds' M2 e2
    simp only [Option.some.injEq, Prod.mk.injEq] at e
    obtain ⟨rfl, rfl⟩ := e
    refine .inl ⟨env, M, s, M1, F, κ, e1, t, er, fun F1 κ1 H1 v x1 t1 r => ?_⟩
    obtain ⟨F2, x2, t2, r2⟩ := t1.frz r e2
    rw [gd.K]
    cases r2 with
    | lst q rs => exact ⟨_, _, rfl, t2.sub.sqL (.of q), k F2 κ1 H1 _ (x1.trans x2) t2 (itok_enum (.of q) rs)⟩
  · rename_i ds' M2 e2
    simp only [Option.some.injEq, Prod.mk.injEq] at e
    obtain ⟨rfl, rfl⟩ := e
    refine .inr ⟨env, M, s, M1, F, κ, e1, t, er, fun F1 κ1 H1 v x1 t1 r => ?_⟩
    obtain ⟨F2, x2, t2, r2⟩ := t1.frz r e2
    rw [gd.K]
    cases r2 with
    | tup q rs => exact ⟨_, _, rfl, t2.sub.sqT q, k F2 κ1 H1 _ (x1.trans x2) t2 (itok_enumT q rs)⟩
  · cases e
theorem i_enA {fa : List Fx} {cs : List Str} {p tpos : Pos} {elts : List Expr} {kk : Nat} (L : Low fa cs W) (m : Fx.free "enumerate" ∈ fa) (g : gOk sc "enumerate" = true) (hst : notStar a = true) (ha : DE W N sc a f1) : DI W N sc (.Tuple elts kk tpos) (.Call (.Name "enumerate" p) [a] [] pos) (iEnumA f1) := di_enumA (L.free_ g m) hst ha
end
end G
/-! bool(x) of what has a truth of its own. -/
namespace G
open PySem L2 PyProof.Rows
theorem bool_newIn {prog : Program} {w : World} (x : Value) : MeetsIn prog w (Builtin.«bool.__new__» ⟨[.type "bool", x], []⟩) (fun A R s => wpAny (model prog w) A.in1 (truthy x) (fun b s' => R (.ok (.ret (.bool b))) s') (fun _ _ => False) s) :=
  .of_wp fun A R s h => by
    have f1 := F.conv_sub_bool
    obtain ⟨hp, g, d, tk, os⟩ := s
    wp_walk
    show wpAny _ A.in1 (truthy x) _ _ _
    exact wpAny_mono h (fun b s' z => wpAny_pure ⟨_, rfl, z⟩) fun _ _ z => z.elim
def deep2 (X : Cx) : Cx := { X with A := X.A.in1.in1 }
section
variable {X : Cx} {pins : List (Addr × Obj)} {σ : L2.St} {H : Hp} {s : Shared}
theorem Ok.d2 (o : X.Ok) : (deep2 X).Ok := ⟨o.mod, o.kind, o.glob, o.blt, o.above, o.inj, o.has, o.cab, o.hd, o.frames, o.stk, o.exf, o.bs, o.bsz, o.noex, o.exfs, o.funs, o.frf⟩
theorem Ok.u2 (o : (deep2 X).Ok) : X.Ok := ⟨o.mod, o.kind, o.glob, o.blt, o.above, o.inj, o.has, o.cab, o.hd, o.frames, o.stk, o.exf, o.bs, o.bsz, o.noex, o.exfs, o.funs, o.frf⟩
theorem Inv.d2 (i : Inv X pins σ H s) : Inv (deep2 X) pins σ H s := ⟨Ok.d2 i.ok, i.os, i.bare, i.base, i.loc, i.cell, i.free, i.freeC, i.pin, i.hok, i.len⟩
theorem Inv.u2 (i : Inv (deep2 X) pins σ H s) : Inv X pins σ H s := ⟨Ok.u2 i.ok, i.os, i.bare, i.base, i.loc, i.cell, i.free, i.freeC, i.pin, i.hok, i.len⟩
end
section
variable {W : Wd} {N : List Str} {sc : Scp} {a : Expr} {fa : EF} {pos p : Pos}
theorem Gd.d2 {X : Cx} (gd : Gd W N sc X) (h2 : 2 ≤ W.k) : Gd (W.at (W.k - 2)) N sc (deep2 X) := by
  have hr : Room (W.k - 2) (deep2 X).A := by
    have h := gd.hr
    have e : W.k = (W.k - 2) + 1 + 1 := by omega
    rw [e] at h
    exact h.in1.in1
  exact ⟨gd.prog, gd.w, gd.K, gd.mg, gd.base, gd.eN, gd.eS, gd.calm, hr, gd.nd, gd.fn, gd.xe⟩
theorem de_boolO {mt : Str → Option FSem} {pt : Str → Bool} (h2 : 2 ≤ W.k) (hmt : ∀ c f, mt c = some f → MethHas (W.at (W.k - 2)) c "__bool__" f) (hpt : PlainTru W pt) (hf : Free W sc "bool") (hst : notStar a = true) (ha : DE W N sc a fa) :
    DE W N sc (.Call (.Name "bool" p) [a] [] pos) (eOf (eTru mt pt fa)) := by
  intro X gd
  refine ⟨fun pins s σ H Q I h => ?_⟩
  obtain ⟨env, M, s0, M', F, κ, e, t, er, k⟩ := h
  unfold eOf at e
  split at e
  rotate_left
  · cases e
  rename_i b M1 e1
  simp only [Option.some.injEq, Prod.mk.injEq] at e
  obtain ⟨rfl, rfl⟩ := e
  unfold eTru at e1
  split at e1
  rotate_left
  · cases e1
  rename_i s1 M2 e2
  have gd2 := gd.d2 h2
  have h' : tEv W fa σ H (fun x H1 => tStar (deep2 X) x H1 fun c H' => Q (.bl c) H') := ⟨env, M, s1, M2, F, κ, e2, t, er, fun F1 κ1 H1 v x1 t1 r => tru_ok gd2 hmt hpt t1 r e1 fun F2 κ2 H2 x2 t2 => k F2 κ2 H2 _ (x1.trans x2) t2 (show Rep W.K W.cA F2 (.bl b) (.bl b) from .bl b)⟩
  refine Call_ (ld_blt I (gd.gl hf.1) (by rw [gd.mg]; exact hf.2) PyProof.Rows.boot_bool (PyProof.Rows.callWith_type1 (one_arg (ha X gd) I h' (fun v s2 x H2 I2 r q => ?_) (star1 hst _)) (star1 hst _)))
  refine callType_newIn PySem.F.called_bool PySem.F.newNe_bool (PySem.F.typeCall_bool_1 v) (PySem.F.newCall_bool_1 v) (fun obj => PySem.F.args_object_init_2 obj v) PySem.F.entry_bool_new (bool_newIn v) ?_
  obtain ⟨r', hr', hq⟩ := q
  refine wpAny_mono (hr' pins s2 σ H2 x v _ (Inv.d2 I2) r hq) (fun c s' z => ?_) fun e' s' z => ?_
  · obtain ⟨H', I', q'⟩ := z
    exact ⟨rfl, .bl c, H', Inv.u2 I', rfl, q'⟩
  · have : X.xe e' s' := z
    rw [gd.xe] at this
    exact this
theorem e_boolO {fx : List Fx} {cs : List Str} {mt : Str → Option FSem} {pt : Str → Bool} (h2 : 2 ≤ W.k) (hmt : ∀ c f, mt c = some f → MethHas (W.at (W.k - 2)) c "__bool__" f) (L : Low fx cs W) (hpt : PlainTru W pt) (m : Fx.free "bool" ∈ fx) (g : gOk sc "bool" = true) (hst : notStar a = true) (ha : DE W N sc a fa) :
    DE W N sc (.Call (.Name "bool" p) [a] [] pos) (eOf (eTru mt pt fa)) := de_boolO h2 hmt hpt (L.free_ g m) hst ha
end
end G
/-! Fields put; rows that are lists or tuples. -/
namespace G
open PySem L2
@[simp] theorem r_setFld (na : Str → Str → Bool) (M : Ms) (c : Str) (gs : List (Str × D)) (f : Str) (v : D) : setFld na (M ++ [.obj c gs]) (.hd M.length) f v = if na c f && decide (gs.length < 1000) then some (M ++ [.obj c (setFld.putFD f v gs)]) else none := by
  unfold setFld
  simp
@[simp] theorem r_putFD_nil (f : Str) (v : D) : setFld.putFD f v [] = [(f, v)] := id rfl
@[simp] theorem r_putFD_cons (a b : String) (v x : D) (r : List (Str × D)) : setFld.putFD (Str.ofString a) v ((Str.ofString b, x) :: r) = if b = a then (Str.ofString b, v) :: r else (Str.ofString b, x) :: setFld.putFD (Str.ofString a) v r := by
  have e : setFld.putFD (Str.ofString a) v ((Str.ofString b, x) :: r) = if Str.ofString b = Str.ofString a then (Str.ofString b, v) :: r else (Str.ofString b, x) :: setFld.putFD (Str.ofString a) v r := rfl
  rw [e]
  simp only [lit_inj]
/-- a list or a tuple -/
def sq (b : Bool) (ds : List D) : D := if b then .lst ds else .tup ds
@[simp] theorem sq_t (ds : List D) : sq true ds = .lst ds := id rfl
@[simp] theorem sq_f (ds : List D) : sq false ds = .tup ds := id rfl
@[simp] theorem sq_len (b : Bool) (ds : List D) : gLen [sq b ds] = some (.int ds.length) := by cases b <;> rfl
@[simp] theorem sq_items (b : Bool) (ds : List D) : itemsOf (sq b ds) = some ds := by cases b <;> rfl
@[simp] theorem sq_walk (b : Bool) (ds : List D) : walkOf (sq b ds) = some ds := by cases b <;> rfl
@[simp] theorem sq_list (b : Bool) (ds : List D) : cList [sq b ds] = some (.lst ds) := by cases b <;> rfl
@[simp] theorem sq_tuple (b : Bool) (ds : List D) : gTuple [sq b ds] = some (.tup ds) := by cases b <;> rfl
def enumOf : D → Option (List D)
  | .lst ds => some (enumD ds)
  | .tup ds => some (enumD ds)
  | _ => none
@[simp] theorem enumOf_l (ds : List D) : enumOf (.lst ds) = some (enumD ds) := id rfl
@[simp] theorem enumOf_t (ds : List D) : enumOf (.tup ds) = some (enumD ds) := id rfl
@[simp] theorem enumOf_s (b : Bool) (ds : List D) : enumOf (sq b ds) = some (enumD ds) := by cases b <;> rfl
@[simp 1100] theorem r_iEnumA' (fa : EF) (env : Ev) (M : Ms) : iEnumA fa env M = match fa env M with
  | some (s, M1) => match frz M1 s with
    | some (d, M2) => match enumOf d with
      | some es => some (es, M2)
      | none => none
    | none => none
  | none => none := by
  rw [r_iEnumA]
  cases fa env M with
  | none => rfl
  | some p =>
    obtain ⟨s, M1⟩ := p
    simp only
    cases frz M1 s with
    | none => rfl
    | some q =>
      obtain ⟨d, M2⟩ := q
      cases d <;> rfl
@[simp] theorem r_gNe4 (n : Nat) (m : Int) : gNe (.int (n : Nat)) (.int m) = some (.bl (!decide ((n : Int) = m))) := id rfl
@[simp] theorem r_cList1 (ds : List D) : cList [.lst ds] = some (.lst ds) := id rfl
@[simp] theorem r_cList2 (ds : List D) : cList [.tup ds] = some (.lst ds) := id rfl
@[simp] theorem r_dSlice1 (ds : List D) (i : Nat) : dSlice (.lst ds) none (some (i : Nat)) = some (.lst (ds.take i)) := by
  show some (D.lst (cutD ds none (some ((i : Nat) : Int)))) = _
  rw [cut_take]
@[simp] theorem r_dSlice2 (ds : List D) (i : Nat) : dSlice (.tup ds) none (some (i : Nat)) = some (.tup (ds.take i)) := by
  show some (D.tup (cutD ds none (some ((i : Nat) : Int)))) = _
  rw [cut_take]
@[simp] theorem r_dSlice3 (ds : List D) (i : Nat) : dSlice (.lst ds) (some (i : Nat)) none = some (.lst (ds.drop i)) := by
  show some (D.lst (cutD ds (some ((i : Nat) : Int)) none)) = _
  rw [cut_drop]
@[simp] theorem r_dSlice4 (ds : List D) (i : Nat) : dSlice (.tup ds) (some (i : Nat)) none = some (.tup (ds.drop i)) := by
  show some (D.tup (cutD ds (some ((i : Nat) : Int)) none)) = _
  rw [cut_drop]
@[simp] theorem r_dRev (ds : List D) : dRev (.lst ds) = some (.lst ds.reverse) := id rfl
theorem in_strs_b {x : Str} {ys : List Str} {b : Bool} (h1 : PyData.strOk x = true) (h2 : ys.all PyData.strOk = true) : gIn (.str x) (sq b (ys.map D.str)) = some (.bl (decide (x ∈ ys))) := by
  cases b
  · rw [sq_f, r_gInT, in_strs h1 h2]; rfl
  · rw [sq_t, r_gInL, in_strs h1 h2]; rfl
theorem notin_strs_b {x : Str} {ys : List Str} {b : Bool} (h1 : PyData.strOk x = true) (h2 : ys.all PyData.strOk = true) : gNotIn (.str x) (sq b (ys.map D.str)) = some (.bl (!decide (x ∈ ys))) := by
  cases b
  · rw [sq_f, r_gNotInT, in_strs h1 h2]; rfl
  · rw [sq_t, r_gNotInL, in_strs h1 h2]; rfl
theorem not_in_take {α : Type} {xs : List α} {i : Nat} {x : α} (hd : xs.Nodup) (hx : xs[i]? = some x) : x ∉ xs.take i := fun hm => by
  obtain ⟨hi, ei⟩ := List.getElem?_eq_some_iff.mp hx
  obtain ⟨k, hj, ej⟩ := List.mem_iff_getElem.mp hm
  rw [List.length_take] at hj
  rw [List.getElem_take] at ej
  have := (List.getElem_inj (h₀ := by omega) (h₁ := hi) hd).mp (ej.trans ei.symm)
  omega
theorem all_take {α : Type} {p : α → Bool} {xs : List α} (h : xs.all p = true) (i : Nat) : (xs.take i).all p = true := List.all_eq_true.mpr fun x hx => List.all_eq_true.mp h x (List.mem_of_mem_take hx)
theorem big_line {n : Nat} (h : n ≤ 1000000) : n ≤ sizeLine := by rw [sizeLine_eq]; omega
theorem big_lt {n : Nat} (h : n ≤ 1000000) : n < sizeLine := by rw [sizeLine_eq]; omega
/-- a field; a method; for names of things that are not unfolded -/
def fldD (d : D) (x : Str) : Option D := match d with
  | .obj _ gs => gs.lookup x
  | _ => none
@[simp] theorem fldD_obj (c : Str) (gs : List (Str × D)) (x : Str) : fldD (.obj c gs) x = gs.lookup x := id rfl
@[simp 1100] theorem r_eAttr' (x : Str) (fa : EF) (env : Ev) (M : Ms) : eAttr x fa env M = match fa env M with
  | some (s, M1) => match view M1 s with
    | some d => match fldD d x with
      | some v => some (.d v, M1)
      | none => none
    | none => none
  | none => none := by
  rw [r_eAttr]
  cases fa env M with
  | none => rfl
  | some p =>
    obtain ⟨s, M1⟩ := p
    simp only
    cases view M1 s with
    | none => rfl
    | some d => cases d <;> rfl
def methD (mt : Str → Option FSem) (m : Str) (d : D) : Option FSem := match d with
  | .obj c gs => match mt c with
    | some F => match gs.lookup m with
      | some _ => none
      | none => some F
    | none => none
  | _ => none
@[simp] theorem methD_obj (mt : Str → Option FSem) (m : Str) (c : Str) (gs : List (Str × D)) : methD mt m (.obj c gs) = match mt c with
    | some F => match gs.lookup m with
      | some _ => none
      | none => some F
    | none => none := id rfl
@[simp 1100] theorem r_eMeth' (mt : Str → Option FSem) (m : Str) (fa : EF) (ga : AF) (env : Ev) (M : Ms) : eMeth mt m fa ga env M = match fa env M with
  | some (s, M1) => match view M1 s with
    | some d => match methD mt m d with
      | some F => match ga env M1 with
        | some (ss, M2) => F (s :: ss) M2
        | none => none
      | none => none
    | none => none
  | none => none := by
  rw [r_eMeth]
  cases fa env M with
  | none => rfl
  | some p =>
    obtain ⟨s, M1⟩ := p
    simp only
    cases view M1 s with
    | none => rfl
    | some d =>
      cases d <;> try rfl
      rename_i c gs
      simp only [methD]
      cases mt c with
      | none => rfl
      | some F => cases gs.lookup m <;> rfl
@[simp] theorem isN_non : isN .non = true := id rfl
@[simp] theorem isN_int (i : Int) : isN (.int i) = false := id rfl
@[simp] theorem isN_str (i : Str) : isN (.str i) = false := id rfl
@[simp] theorem isN_tup (i : List D) : isN (.tup i) = false := id rfl
@[simp] theorem isN_lst (i : List D) : isN (.lst i) = false := id rfl
@[simp] theorem isN_bl (i : Bool) : isN (.bl i) = false := id rfl
@[simp] theorem isN_obj (c : Str) (i : List (Str × D)) : isN (.obj c i) = false := id rfl
end G
/-! Loops that fold; pairs of texts. -/
namespace G
open PySem L2
section
variable {env : Ev} {M M1 : Ms} {rest body : SF} {g : GF} {fi : IF} {Q : Option Out → Prop} {α σ : Type}
theorem foldl_take_succ (step : σ → α → σ) (s0 : σ) {xs : List α} {i : Nat} {x : α} (h : xs[i]? = some x) : (xs.take (i + 1)).foldl step s0 = step ((xs.take i).foldl step s0) x := by
  rw [List.take_add_one, h]
  simp
theorem seq_fold1 (xs : List α) (din : α → D) (step : σ → α → σ) (s0 : σ) (E : σ → Option S → Ev) (Mf : σ → Ms) (I : Nat → σ → Prop) (hI : I 0 s0) (z : Option S) (hi : fi env M = some (xs.map din, M1)) (hE : env = E s0 z) (hM : M1 = Mf s0)
    (hs : ∀ i x s z, xs[i]? = some x → I i s → I (i + 1) (step s x) ∧ ∃ z', turn g body (din x) (E s z) (Mf s) = some (.nx (E (step s x) z') (Mf (step s x))))
    (hr : ∀ z, I xs.length (xs.foldl step s0) → Q (rest (E (xs.foldl step s0) z) (Mf (xs.foldl step s0)))) : Q (sSeq (sFor fi g body) rest env M) := by
  subst hE hM
  refine seq_forP xs din (fun i e M => ∃ z, I i ((xs.take i).foldl step s0) ∧ e = E ((xs.take i).foldl step s0) z ∧ M = Mf ((xs.take i).foldl step s0)) hi ⟨z, hI, rfl, rfl⟩ ?_ ?_
  · rintro i x _ _ hx ⟨z, hI, rfl, rfl⟩
    obtain ⟨h1, z', h⟩ := hs i x _ z hx hI
    refine ⟨_, _, .inl h, z', ?_⟩
    rw [foldl_take_succ step s0 hx]
    exact ⟨h1, rfl, rfl⟩
  · rintro _ _ ⟨z, hI, rfl, rfl⟩
    rw [List.take_length] at *
    exact hr z hI
theorem seq_fold2 (xs : List α) (din : α → D) (step : σ → α → σ) (s0 : σ) (E : σ → Option S → Option S → Ev) (Mf : σ → Ms) (I : Nat → σ → Prop) (hI : I 0 s0) (z w : Option S) (hi : fi env M = some (xs.map din, M1)) (hE : env = E s0 z w) (hM : M1 = Mf s0)
    (hs : ∀ i x s z w, xs[i]? = some x → I i s → I (i + 1) (step s x) ∧ ∃ z' w', turn g body (din x) (E s z w) (Mf s) = some (.nx (E (step s x) z' w') (Mf (step s x))))
    (hr : ∀ z w, I xs.length (xs.foldl step s0) → Q (rest (E (xs.foldl step s0) z w) (Mf (xs.foldl step s0)))) : Q (sSeq (sFor fi g body) rest env M) := by
  subst hE hM
  refine seq_forP xs din (fun i e M => ∃ z w, I i ((xs.take i).foldl step s0) ∧ e = E ((xs.take i).foldl step s0) z w ∧ M = Mf ((xs.take i).foldl step s0)) hi ⟨z, w, hI, rfl, rfl⟩ ?_ ?_
  · rintro i x _ _ hx ⟨z, w, hI, rfl, rfl⟩
    obtain ⟨h1, z', w', h⟩ := hs i x _ z w hx hI
    refine ⟨_, _, .inl h, z', w', ?_⟩
    rw [foldl_take_succ step s0 hx]
    exact ⟨h1, rfl, rfl⟩
  · rintro _ _ ⟨z, w, hI, rfl, rfl⟩
    rw [List.take_length] at *
    exact hr z w hI
theorem seq_fold3 (xs : List α) (din : α → D) (step : σ → α → σ) (s0 : σ) (E : σ → Option S → Option S → Option S → Ev) (Mf : σ → Ms) (I : Nat → σ → Prop) (hI : I 0 s0) (z w u : Option S) (hi : fi env M = some (xs.map din, M1)) (hE : env = E s0 z w u) (hM : M1 = Mf s0)
    (hs : ∀ i x s z w u, xs[i]? = some x → I i s → I (i + 1) (step s x) ∧ ∃ z' w' u', turn g body (din x) (E s z w u) (Mf s) = some (.nx (E (step s x) z' w' u') (Mf (step s x))))
    (hr : ∀ z w u, I xs.length (xs.foldl step s0) → Q (rest (E (xs.foldl step s0) z w u) (Mf (xs.foldl step s0)))) : Q (sSeq (sFor fi g body) rest env M) := by
  subst hE hM
  refine seq_forP xs din (fun i e M => ∃ z w u, I i ((xs.take i).foldl step s0) ∧ e = E ((xs.take i).foldl step s0) z w u ∧ M = Mf ((xs.take i).foldl step s0)) hi ⟨z, w, u, hI, rfl, rfl⟩ ?_ ?_
  · rintro i x _ _ hx ⟨z, w, u, hI, rfl, rfl⟩
    obtain ⟨h1, z', w', u', h⟩ := hs i x _ z w u hx hI
    refine ⟨_, _, .inl h, z', w', u', ?_⟩
    rw [foldl_take_succ step s0 hx]
    exact ⟨h1, rfl, rfl⟩
  · rintro _ _ ⟨z, w, u, hI, rfl, rfl⟩
    rw [List.take_length] at *
    exact hr z w u hI
end
/-! ### pairs of texts -/
def pairD (p : Str × Str) : D := .tup [.str p.1, .str p.2]
/-- a pair -/
def pr (a : String) (b : Str) : Str × Str := (Str.ofString a, b)
def prOk (p : Str × Str) : Bool := PyData.strOk p.1 && PyData.strOk p.2
theorem oks_prs : ∀ (xs : List (Str × Str)), oksP (xs.map pairD) = xs.all prOk
  | [] => rfl
  | x :: xs => by simp [oks_prs xs, pairD, prOk]
theorem dp_prs : ∀ (xs : List (Str × Str)), PyData.depthAll (toPys (xs.map pairD)) ≤ 1
  | [] => by simp
  | x :: xs => by
    have := dp_prs xs
    simp [pairD] at this ⊢
    omega
theorem eqv_prs (a b : Str × Str) : PyData.eqv (toPy (pairD a)) (toPy (pairD b)) = decide (a = b) := by
  obtain ⟨a1, a2⟩ := a
  obtain ⟨b1, b2⟩ := b
  simp [pairD]
  try (by_cases h1 : a1 = b1 <;> by_cases h2 : a2 = b2 <;> simp [h1, h2])
theorem any_prs (x : Str × Str) : ∀ ys : List (Str × Str), ((ys.map pairD).any fun z => PyData.eqv (toPy z) (toPy (pairD x))) = decide (x ∈ ys)
  | [] => by simp
  | y :: ys => by
    rw [List.map_cons, List.any_cons, any_prs x ys, eqv_prs]
    by_cases h1 : y = x <;> by_cases h2 : x ∈ ys <;> simp [h1, h2]
    intro h; exact h1 h.symm
theorem in_prs {x : Str × Str} {ys : List (Str × Str)} (h1 : prOk x = true) (h2 : ys.all prOk = true) : inSeq (pairD x) (ys.map pairD) = some (decide (x ∈ ys)) := by
  have hd : (toPy (pairD x)).depth ≤ 64 := by simp [pairD]
  have ho : okP (pairD x) = true := by simpa [pairD, prOk] using h1
  rw [r_inSeq, oks_prs, h2, ho, any_prs]
  simp [hd]
theorem eq_prs {xs ys : List (Str × Str)} (h1 : xs.all prOk = true) (h2 : ys.all prOk = true) : eqSeq (xs.map pairD) (ys.map pairD) = some (decide (xs = ys)) := by
  have d1 := dp_prs xs
  have d2 := dp_prs ys
  rw [r_eqSeq, oks_prs, oks_prs, h1, h2, eqvA_map pairD eqv_prs]
  have e1 : PyData.depthAll (toPys (xs.map pairD)) ≤ 63 := by omega
  have e2 : PyData.depthAll (toPys (ys.map pairD)) ≤ 63 := by omega
  simp [e1, e2]
end G
/-! Comprehensions that draw. -/
namespace G
open PySem L2
/-- side by side -/
inductive All2 {α β : Type} (P : α → β → Prop) : List α → List β → Prop
  | nil : All2 P [] []
  | cons {x : α} {y : β} {xs : List α} {ys : List β} : P x y → All2 P xs ys → All2 P (x :: xs) (y :: ys)
theorem All2.length {α β : Type} {P : α → β → Prop} {xs : List α} {ys : List β} (h : All2 P xs ys) : xs.length = ys.length := by
  induction h with
  | nil => rfl
  | cons _ _ ih => simp [ih]
theorem All2.mem {α β : Type} {P : α → β → Prop} {xs : List α} {ys : List β} (h : All2 P xs ys) : ∀ y ∈ ys, ∃ x ∈ xs, P x y := by
  induction h with
  | nil => simp
  | cons p _ ih =>
    intro y hy
    rcases List.mem_cons.mp hy with rfl | hy
    · exact ⟨_, by simp, p⟩
    · obtain ⟨x, hx, q⟩ := ih y hy
      exact ⟨x, by simp [hx], q⟩
section
variable {env : Ev} {M M1 : Ms} {g : GF} {fi : IF} {c : TF} {f : EF} {vs : List Nat} {α β : Type}
/-- the condition draws -/
theorem lcD_sub (din dout : α → D) (R : Ms → Prop) (n : Nat) (hn : ∀ M, R M → M.length = n) : ∀ (xs : List α) (M : Ms) (acc : List D), R M → (∀ x ∈ xs, ∀ M acc, R M → ∃ e1 b M2, g (.d (din x)) (wipeE env vs) (M ++ [.lst acc]) = some (e1, M ++ [.lst acc]) ∧ c e1 (M ++ [.lst acc]) = some (b, M2 ++ [.lst acc]) ∧ R M2 ∧ (b = true → f e1 (M2 ++ [.lst acc]) = some (.d (dout x), M2 ++ [.lst acc]))) →
    acc.length + xs.length ≤ sizeLine → ∃ (ys : List α) (M' : Ms), ys.Sublist xs ∧ R M' ∧ lcD g c f vs n (xs.map din) env (M ++ [.lst acc]) = some (M' ++ [.lst (acc ++ ys.map dout)])
  | [], M, acc, hR, _, _ => ⟨[], M, .refl _, hR, by simp [lcD]⟩
  | x :: xs, M, acc, hR, hs, hl => by
    obtain ⟨e1, b, M2, h1, h2, h3, h4⟩ := hs x (by simp) M acc hR
    have hl' : acc.length + (xs.length + 1) ≤ sizeLine := hl
    rw [List.map_cons]
    unfold lcD
    simp only [h1, h2]
    have hn2 := hn M2 h3
    cases b with
    | false =>
      obtain ⟨ys, M', k1, k2, k3⟩ := lcD_sub din dout R n hn xs M2 acc h3 (fun y hy => hs y (List.mem_cons_of_mem _ hy)) (by omega)
      exact ⟨ys, M', k1.cons x, k2, k3⟩
    | true =>
      obtain ⟨ys, M', k1, k2, k3⟩ := lcD_sub din dout R n hn xs M2 (acc ++ [dout x]) h3 (fun y hy => hs y (List.mem_cons_of_mem _ hy)) (by simp; omega)
      refine ⟨x :: ys, M', k1.cons₂ x, k2, ?_⟩
      simp only [h4 rfl, r_frz_d]
      rw [← hn2, List.getElem?_append_right (Nat.le_refl _), Nat.sub_self, List.getElem?_cons_zero]
      simp only
      rw [if_pos (by omega), List.set_append_right _ _ (Nat.le_refl _), Nat.sub_self, List.set_cons_zero, hn2, k3]
      simp
theorem cLc_sub (xs : List α) (din dout : α → D) (R : Ms → Prop) (n : Nat) (hn : ∀ M, R M → M.length = n) (hR : R M1) (hi : fi env M = some (xs.map din, M1))
    (hs : ∀ x ∈ xs, ∀ M acc, R M → ∃ e1 b M2, g (.d (din x)) (wipeE env vs) (M ++ [.lst acc]) = some (e1, M ++ [.lst acc]) ∧ c e1 (M ++ [.lst acc]) = some (b, M2 ++ [.lst acc]) ∧ R M2 ∧ (b = true → f e1 (M2 ++ [.lst acc]) = some (.d (dout x), M2 ++ [.lst acc])))
    (hl : xs.length ≤ sizeLine) : ∃ (ys : List α) (M' : Ms), ys.Sublist xs ∧ R M' ∧ cLc fi g c f vs env M = some (.lst (ys.map dout), M') := by
  have h1 := hn M1 hR
  obtain ⟨ys, M', k1, k2, k3⟩ := lcD_sub (g := g) (c := c) (f := f) (vs := vs) (env := env) din dout R n hn xs M1 [] hR hs (by simpa using hl)
  refine ⟨ys, M', k1, k2, ?_⟩
  have h2 := hn M' k2
  unfold cLc
  simp only [hi]
  rw [h1, k3]
  simp only [List.nil_append]
  rw [← h2, List.getElem?_append_right (Nat.le_refl _), Nat.sub_self, List.getElem?_cons_zero]
  simp
/-- what is put in draws -/
theorem lcD_drawn (din : α → D) (dout : β → D) (P : α → β → Prop) (R : Ms → Prop) (n : Nat) (hn : ∀ M, R M → M.length = n) : ∀ (xs : List α) (M : Ms) (acc : List D), R M → (∀ x ∈ xs, ∀ M acc, R M → ∃ e1 y M2, g (.d (din x)) (wipeE env vs) (M ++ [.lst acc]) = some (e1, M ++ [.lst acc]) ∧ f e1 (M ++ [.lst acc]) = some (.d (dout y), M2 ++ [.lst acc]) ∧ R M2 ∧ P x y) →
    acc.length + xs.length ≤ sizeLine → ∃ (ys : List β) (M' : Ms), All2 P xs ys ∧ R M' ∧ lcD g tTrue f vs n (xs.map din) env (M ++ [.lst acc]) = some (M' ++ [.lst (acc ++ ys.map dout)])
  | [], M, acc, hR, _, _ => ⟨[], M, .nil, hR, by simp [lcD]⟩
  | x :: xs, M, acc, hR, hs, hl => by
    obtain ⟨e1, y, M2, h1, h2, h3, h4⟩ := hs x (by simp) M acc hR
    have hl' : acc.length + (xs.length + 1) ≤ sizeLine := hl
    rw [List.map_cons]
    unfold lcD
    simp only [h1, r_tTrue, h2]
    have hn2 := hn M2 h3
    obtain ⟨ys, M', k1, k2, k3⟩ := lcD_drawn din dout P R n hn xs M2 (acc ++ [dout y]) h3 (fun y hy => hs y (List.mem_cons_of_mem _ hy)) (by simp; omega)
    refine ⟨y :: ys, M', .cons h4 k1, k2, ?_⟩
    simp only [r_frz_d]
    rw [← hn2, List.getElem?_append_right (Nat.le_refl _), Nat.sub_self, List.getElem?_cons_zero]
    simp only
    rw [if_pos (by omega), List.set_append_right _ _ (Nat.le_refl _), Nat.sub_self, List.set_cons_zero, hn2, k3]
    simp
theorem cLc_drawn (xs : List α) (din : α → D) (dout : β → D) (P : α → β → Prop) (R : Ms → Prop) (n : Nat) (hn : ∀ M, R M → M.length = n) (hR : R M1) (hi : fi env M = some (xs.map din, M1))
    (hs : ∀ x ∈ xs, ∀ M acc, R M → ∃ e1 y M2, g (.d (din x)) (wipeE env vs) (M ++ [.lst acc]) = some (e1, M ++ [.lst acc]) ∧ f e1 (M ++ [.lst acc]) = some (.d (dout y), M2 ++ [.lst acc]) ∧ R M2 ∧ P x y)
    (hl : xs.length ≤ sizeLine) : ∃ (ys : List β) (M' : Ms), All2 P xs ys ∧ R M' ∧ cLc fi g tTrue f vs env M = some (.lst (ys.map dout), M') := by
  have h1 := hn M1 hR
  obtain ⟨ys, M', k1, k2, k3⟩ := lcD_drawn (g := g) (f := f) (vs := vs) (env := env) din dout P R n hn xs M1 [] hR hs (by simpa using hl)
  refine ⟨ys, M', k1, k2, ?_⟩
  have h2 := hn M' k2
  unfold cLc
  simp only [hi]
  rw [h1, k3]
  simp only [List.nil_append]
  rw [← h2, List.getElem?_append_right (Nat.le_refl _), Nat.sub_self, List.getElem?_cons_zero]
  simp
end
/-- the draw's cell is the first: its turn is j -/
def drM (ns : List Int) (M : Ms) : Prop := ∃ j : Int, 0 ≤ j ∧ M[0]? = some (.lst [.scr ns, .int j])
theorem drM.set {ns : List Int} {M : Ms} (h : drM ns M) {j : Int} (hj : 0 ≤ j) : drM ns (M.set 0 (.lst [.scr ns, .int j])) := by
  obtain ⟨k, _, hk⟩ := h
  exact ⟨j, hj, List.getElem?_set_self (List.getElem?_eq_some_iff.mp hk).1⟩
end G
/-! Loops stepped through; numbers in rows. -/
namespace G
open PySem L2
/-- goes on, so that P stands -/
def isS (P : Ev → Ms → Prop) (o : Option Out) : Prop := ∃ e M, o = some (.nx e M) ∧ P e M
theorem isS_of {P : Ev → Ms → Prop} {o : Option Out} {e : Ev} {M : Ms} (h : o = some (.nx e M)) (p : P e M) : isS P o := ⟨e, M, h, p⟩
theorem isS_imp {P P' : Ev → Ms → Prop} {o : Option Out} (h : isS P o) (i : ∀ e M, P e M → P' e M) : isS P' o := let ⟨e, M, h1, h2⟩ := h; ⟨e, M, h1, i e M h2⟩
section
variable {env : Ev} {M M1 : Ms} {rest body f : SF} {g : GF} {fi : IF} {Q : Option Out → Prop} {α σ : Type} {c : TF}
theorem seq_s {P : Ev → Ms → Prop} (h : isS P (f env M)) (hr : ∀ e M, P e M → Q (rest e M)) : Q (sSeq f rest env M) := by
  obtain ⟨e, M', h1, h2⟩ := h
  exact seq_nx h1 (hr e M' h2)
theorem turn_v {k : Nat} {d : D} (hk : k < env.length) (h : Q (body (env.set k (some (.d d))) M)) : Q (turn (gVar k) body d env M) := by
  rw [r_turn, r_gVar, if_pos hk]; exact h
theorem for_S (xs : List α) (din : α → D) (P : Nat → Ev → Ms → Prop) (hi : fi env M = some (xs.map din, M1)) (h0 : P 0 env M1) (hs : ∀ i x env M, xs[i]? = some x → P i env M → isS (P (i + 1)) (turn g body (din x) env M)) : isS (P xs.length) (sFor fi g body env M) := by
  obtain ⟨e2, M2, k1, k2⟩ := for_P (g := g) (body := body) din xs P env M1 h0 fun i x env M hx hP => by
    obtain ⟨e, M', h1, h2⟩ := hs i x env M hx hP
    exact ⟨e, M', .inl h1, h2⟩
  refine isS_of ?_ k2
  rw [r_sFor, hi]
  exact k1
theorem seq_forS (xs : List α) (din : α → D) (P : Nat → Ev → Ms → Prop) (hi : fi env M = some (xs.map din, M1)) (h0 : P 0 env M1) (hs : ∀ i x env M, xs[i]? = some x → P i env M → isS (P (i + 1)) (turn g body (din x) env M))
    (hr : ∀ e M, P xs.length e M → Q (rest e M)) : Q (sSeq (sFor fi g body) rest env M) := seq_s (for_S xs din P hi h0 hs) hr
/-- a test that must be false -/
theorem if_no {P : Ev → Ms → Prop} (hc : c env M = some (false, M1)) (h : P env M1) : isS P (sIf c f sNext env M) := by
  rw [r_sIf, hc]; exact ⟨_, _, rfl, h⟩
theorem seq_no (hc : c env M = some (false, M1)) (h : Q (rest env M1)) : Q (sSeq (sIf c f sNext) rest env M) := by
  refine seq_nx ?_ h
  rw [r_sIf, hc]; rfl
end
theorem rangeD_map (lo : Int) (n : Nat) : rangeD lo n = (List.range n).map fun (i : Nat) => D.int (lo + (i : Nat)) := rfl
theorem filter_range (p : Nat → Bool) (lo hi : Nat) (hp : ∀ i, p i = (decide (lo ≤ i) && decide (i ≤ hi))) : ∀ n : Nat, (List.range n).filter p = List.range' lo (min n (hi + 1) - lo)
  | 0 => by simp
  | n + 1 => by
    rw [List.range_succ, List.filter_append, filter_range p lo hi hp n]
    by_cases h1 : lo ≤ n
    · by_cases h2 : n ≤ hi
      · have e : min (n + 1) (hi + 1) - lo = (min n (hi + 1) - lo) + 1 := by omega
        rw [e, List.range'_concat, List.filter_cons_of_pos (by rw [hp]; simp [h1, h2])]
        simp
        omega
      · have e : min (n + 1) (hi + 1) - lo = min n (hi + 1) - lo := by omega
        rw [e, List.filter_cons_of_neg (by rw [hp]; simp [h2])]
        simp
    · have e : min (n + 1) (hi + 1) - lo = 0 := by omega
      have e' : min n (hi + 1) - lo = 0 := by omega
      rw [e, e', List.filter_cons_of_neg (by rw [hp]; simp [h1])]
      simp
@[simp] theorem r_gIdxNeg (ds : List D) : dIdx (.lst ds) (.int (-1)) = atI ds (-1) := id rfl
theorem atI_nat {α : Type} {xs : List α} {i : Nat} (h : i < xs.length) : atI xs (i : Nat) = xs[i]? := by
  have h1 : ((i : Nat) : Int) < xs.length := by omega
  unfold atI ixN
  simp [h1]
end G
/-! list(d.values()); texts sorted. -/
namespace G
open PySem L2 PyProof.Rows
def tListVals (te : TE) : TE := fun σ H Q => te σ H fun x H1 => ∃ d kvs, x = .ref d ∧ Rd H1 d (.dK kvs) ∧ ∀ p, H1 p = none → Q (.ref p) (upd H1 p (.lst (kvs.map (·.2))))
theorem paired_at {α β : Type} {R : α → β → Prop} : ∀ {xs : List α} {ys : List β}, Paired R xs ys → ∀ {i : Nat} {x : α} {y : β}, xs[i]? = some x → ys[i]? = some y → R x y
  | _, _, .nil, i, x, y, h, _ => by simp at h
  | _, _, .cons r t, 0, x, y, h, h' => by
    simp at h h'
    subst h h'
    exact r
  | _, _, .cons r t, i + 1, x, y, h, h' => paired_at t (by simpa using h) (by simpa using h')
theorem pe_listVals {X : Cx} {e : Expr} {te : TE} {p apos cpos pos : Pos} (hc : X.calm = true) (he : PE X e te) (hg : Gl X "list") (hm : X.mg "list" = none) (hbase : attributeBase e "values" X.env (eval e X.env) = eval e X.env) (hline : (apos.endLine == cpos.line) = true)
    (hs : starEach [.Call (.Attribute e "values" apos) [] [] cpos] X.env = (false, eval (.Call (.Attribute e "values" apos) [] [] cpos) X.env) :: starEach [] X.env := by rfl) :
    PE X (.Call (.Name "list" p) [.Call (.Attribute e "values" apos) [] [] cpos] [] pos) (tListVals te) := by
  refine ⟨fun pins s σ H Q I hq => ?_⟩
  refine wpAny_Call_Name_kw (ld_blt I hg hm boot_list ?_)
  refine PyProof.Rows.callWith_type1 ?_ hs rfl
  rw [hs]
  show wpAny _ _ (spliced ((false, eval (.Call (.Attribute e "values" apos) [] [] cpos) X.env) :: backTo pos (starEach [] X.env))) _ _ s
  refine Calls.spliced_cons ?_
  refine wpAny_Call_method (T := "dict") (id := "dict.values") hbase rfl hline PySem.F.plainAttrs_dict PySem.F.slot_dict_values PySem.F.type_dict_values (thn (he.run pins s σ H _ I hq) fun u s1 ⟨x, H1, I1, rx, d, kvs, ex, hd, q⟩ => ?_)
  subst ex
  obtain rfl : u = Value.ref d := rx
  obtain ⟨hz, hs0, vs, kv, hdo⟩ := dk_rd I1.hok hd
  obtain ⟨ep, hat⟩ := hdo.dictAt
  have lk : kvs.length = vs.length := Paired.length kv
  have I2 : L2.Inv X pins σ H1 { s1 with heap := s1.heap.push { cls := .type "dict_values", data := .fields #[.ref d] } } := I1.kept (t' := s1.toks) fun b ob q => Heap.get?_push_of_some _ q
  refine ⟨hdo.typeIs, hdo.mapOf.noDict, ?_⟩
  show wpAny _ _ (callWith cpos (.builtin "dict.values") [.ref d] [] []) _ X.xe s1
  refine method_meetsIn PySem.F.slot_dict_values PySem.F.entry_dict_values rfl (PySem.evalArgs_none ⟨rfl, hdo.typeIs, PySem.F.args_dict_values_1 _, _, meets_dict_values (mixKind X.prog X.w) d hs0, ⟨vs, hdo⟩, ?_⟩)
  refine Calls.spliced_nil ?_
  refine PySem.W.kdl_call (PySem.W.kdl_values (knd := mixKind X.prog X.w) (kvs := vs) (ep := ep)) (I1.ok.hd hc) ⟨⟨_, Heap.get?_push_size _ rfl, rfl, rfl⟩, hat.push _⟩ (by omega) fun h' tk acc' c' hkeep hS hacc => ?_
  refine ⟨.ref (s1.heap.push { cls := .type "dict_values", data := .fields #[.ref d] }).objs.size, upd H1 (s1.heap.push { cls := .type "dict_values", data := .fields #[.ref d] }).objs.size (.lst (kvs.map (·.2))), I2.laid hkeep (Nat.le_refl _) (show ObjOk X.prog X.w _ _ _ (.lst (kvs.map (·.2))) from ⟨?_, acc'.toList, c', ?_, ?_⟩), rfl, q _ (I2.hok.fresh (Nat.le_refl _))⟩
  · rw [List.length_map]; exact hz
  · have el : acc'.toList.length = acc'.size := by simp
    refine vals_of_at (by rw [List.length_map, el, hacc.1, lk]) fun j x w h1 h2 => ?_
    obtain ⟨k, hky⟩ := hacc.2 j w (by rw [← Array.getElem?_toList]; exact h2)
    rw [List.getElem?_map] at h1
    cases e1 : kvs[j]? with
    | none => rw [e1] at h1; cases h1
    | some kvj =>
      rw [e1] at h1
      cases h1
      exact (paired_at kv e1 hky).2
  · rw [Array.toArray_toList]; exact hS
def dctV : D → Option (List D)
  | .dct kds => some (kds.map (·.2))
  | _ => none
@[simp] theorem r_dctV (kds : List (Key × D)) : dctV (.dct kds) = some (kds.map (·.2)) := id rfl
def cVals (fa : EF) : CF := fun env M => match fa env M with
  | some (s, M1) => match view M1 s with
    | some d => match dctV d with
      | some ds => some (.lst ds, M1)
      | none => none
    | none => none
  | none => none
@[simp] theorem r_cVals (fa : EF) (env : Ev) (M : Ms) : cVals fa env M = match fa env M with
  | some (s, M1) => match view M1 s with
    | some d => match dctV d with
      | some ds => some (.lst ds, M1)
      | none => none
    | none => none
  | none => none := id rfl
section
variable {W : Wd} {N : List Str} {sc : Scp} {a : Expr} {fa : EF} {pos p apos cpos : Pos}
theorem df_vals (hl : Free W sc "list") (hb : notSuper a = true) (hline : (apos.endLine == cpos.line) = true) (ha : DE W N sc a fa) : DF W N sc (.Call (.Name "list" p) [.Call (.Attribute a "values" apos) [] [] cpos] [] pos) (cVals fa) := by
  intro X gd
  refine PE.imp (pe_listVals gd.calm (ha X gd) (gd.gl hl.1) (by rw [gd.mg]; exact hl.2) (attr_base hb _ _) hline (star1 (by rfl) _)) fun σ H Q h => ?_
  obtain ⟨env, M, c0, M', F, κ, e, t, er, k⟩ := h
  unfold cVals at e
  split at e
  rotate_left
  · cases e
  rename_i s M1 e1
  split at e
  rotate_left
  · cases e
  rename_i d e2
  split at e
  rotate_left
  · cases e
  rename_i ds e3
  simp only [Option.some.injEq, Prod.mk.injEq] at e
  obtain ⟨rfl, rfl⟩ := e
  refine ⟨env, M, s, M1, F, κ, e1, t, er, fun F1 κ1 H1 v x1 t1 r => ?_⟩
  cases d <;> first | (cases e3; done) | skip
  rename_i kds
  cases e3
  obtain ⟨q, kvs, rfl, q1, en, rs⟩ := (t1.view r e2).dct0 t1.sub
  exact ⟨q, kvs, rfl, q1, fun q' hq => k F1 κ1 _ q' x1 (t1.new (New.oneH t1.sub hq)) (t1.fresh hq) rfl ⟨t1.sub.none hq, _, upd_same, rs⟩⟩
theorem f_vals {fx : List Fx} {cs : List Str} (L : Low fx cs W) (m : Fx.free "list" ∈ fx) (g : gOk sc "list" = true) (hb : notSuper a = true) (hline : (apos.endLine == cpos.line) = true) (ha : DE W N sc a fa) : DF W N sc (.Call (.Name "list" p) [.Call (.Attribute a "values" apos) [] [] cpos] [] pos) (cVals fa) := df_vals (L.free_ g m) hb hline ha
end
/-! ### texts sorted -/
def leS (a b : Str) : Prop := PySem.Spec.ltCps b.cps.toList a.cps.toList = false
instance (a b : Str) : Decidable (leS a b) := by unfold leS; infer_instance
theorem leS_iff {a b : Str} : leS a b ↔ ¬ b.cps.toList < a.cps.toList := by
  unfold leS
  rw [PyProof.Rows.ltCps_eq]
  simp
theorem leS_antisymm {a b : Str} (h1 : leS a b) (h2 : leS b a) : a = b := str_ext (List.le_antisymm (leS_iff.mp h1) (leS_iff.mp h2))
theorem leS_total (a b : Str) : leS a b ∨ leS b a := by
  rw [leS_iff, leS_iff]
  exact List.le_total a.cps.toList b.cps.toList
theorem leS_trans {a b c : Str} (h1 : leS a b) (h2 : leS b c) : leS a c := by
  rw [leS_iff] at *
  exact List.le_trans h1 h2
def insS (x : Str) : List Str → List Str
  | [] => [x]
  | y :: r => if leS x y then x :: y :: r else y :: insS x r
def sortS : List Str → List Str
  | [] => []
  | x :: r => insS x (sortS r)
theorem insS_perm (x : Str) : ∀ r : List Str, (insS x r).Perm (x :: r)
  | [] => .refl _
  | y :: r => by
    unfold insS
    split
    · exact .refl _
    · exact ((insS_perm x r).cons y).trans (.swap x y r)
theorem sortS_perm : ∀ r : List Str, (sortS r).Perm r
  | [] => .refl _
  | x :: r => (insS_perm x _).trans ((sortS_perm r).cons x)
theorem insS_sorted (x : Str) : ∀ {r : List Str}, r.Pairwise leS → (insS x r).Pairwise leS
  | [], _ => by simp [insS]
  | y :: r, h => by
    unfold insS
    obtain ⟨h1, h2⟩ := List.pairwise_cons.mp h
    split
    · rename_i hxy
      refine List.pairwise_cons.mpr ⟨fun z hz => ?_, h⟩
      rcases List.mem_cons.mp hz with rfl | hz
      · exact hxy
      · exact leS_trans hxy (h1 z hz)
    · rename_i hxy
      refine List.pairwise_cons.mpr ⟨fun z hz => ?_, insS_sorted x h2⟩
      rcases List.mem_cons.mp ((insS_perm x r).mem_iff.mp hz) with rfl | hz
      · exact (leS_total y z).resolve_right hxy
      · exact h1 z hz
theorem sortS_sorted : ∀ r : List Str, (sortS r).Pairwise leS
  | [] => .nil
  | x :: r => insS_sorted x (sortS_sorted r)
theorem rising_pair : ∀ (p : Str) (l : List Str), PyProof.Rows.risingS p l = true → (p :: l).Pairwise leS
  | p, [], _ => by simp
  | p, x :: r, h => by
    unfold PyProof.Rows.risingS at h
    obtain ⟨h1, h2⟩ := Bool.and_eq_true_iff.mp h
    have h1 : leS p x := by unfold leS; simpa using h1
    have ih := rising_pair x r h2
    refine List.pairwise_cons.mpr ⟨fun z hz => ?_, ih⟩
    rcases List.mem_cons.mp hz with rfl | hz
    · exact h1
    · exact leS_trans h1 ((List.pairwise_cons.mp ih).1 z hz)
theorem sortS_uniq {xs ys : List Str} (h1 : ys.Perm xs) (h2 : PyProof.Rows.sortedS ys = true) : ys = sortS xs := by
  have h3 : ys.Pairwise leS := by
    cases ys with
    | nil => simp
    | cons y r => exact rising_pair y r h2
  exact List.Perm.eq_of_pairwise (le := leS) (fun a b _ _ h1 h2 => leS_antisymm h1 h2) h3 (sortS_sorted xs) (h1.trans (sortS_perm xs).symm)
def cSortedS : List D → Option Cell
  | [.lst ds] => match strsD ds with
    | some xs => if xs.length < 64 then some (.lst ((sortS xs).map D.str)) else none
    | none => none
  | _ => none
/-- numbers, or texts -/
def cSortedA (ds : List D) : Option Cell := match cSorted ds with
  | some c => some c
  | none => cSortedS ds
theorem cf_sortedA : CallFS (.builtin "sorted") cSortedA := by
  intro W N sc X gd F H xs dxs c hs hx e Q k
  unfold cSortedA at e
  split at e
  · rename_i c' e'
    cases e
    exact cf_sorted W N sc X gd F H xs dxs c hs hx e' Q k
  · unfold cSortedS at e
    split at e
    rotate_left
    · cases e
    rename_i ds
    split at e
    rotate_left
    · cases e
    rename_i zs e2
    split at e
    rotate_left
    · cases e
    rename_i h64
    cases e
    obtain ⟨v, rfl, h⟩ := hx.one
    obtain ⟨p, vs, rfl, q, rs⟩ := h.lst_ hs
    rw [strsD_eq e2] at rs
    rw [rs.strsV] at q
    refine ⟨_, cr_sortedS, p, zs, rfl, .of q, h64, fun ms l h1 h2 hl => ?_⟩
    rw [sortS_uniq h1 h2]
    refine k l _ hl rfl ⟨hs.none hl, _, upd_same, ?_⟩
    exact (fun ns : List Str => by
      induction ns with
      | nil => exact .nil
      | cons n ns ih => exact .cons (.str n) ih : ∀ ns : List Str, Reps W.K W.cA F (ns.map V.str) (ns.map D.str)) (sortS zs)
end G
/-! Dicts by texts, for plain reckoning; greatest, least of rows. -/
namespace G
open PySem L2
section
variable {β : Type} (f : β → D)
def kvG (mp : List (Str × β)) : List (Key × D) := mp.map fun p => (.inr p.1, f p.2)
theorem kvG_val (k : Str) : ∀ mp : List (Str × β), valD (kvG f mp) (.inr k) = (mp.lookup k).map f
  | [] => rfl
  | (a, b) :: mp => by
    have ih := kvG_val k mp
    unfold valD kvG at ih ⊢
    rw [List.map_cons, List.lookup_cons]
    by_cases e : a = k
    · subst e
      rw [List.find?_cons_of_pos (by simp)]
      simp
    · have e' : (k == a) = false := by simpa using fun h : k = a => e h.symm
      rw [List.find?_cons_of_neg (by simp [e]), ih, e']
theorem kvG_keys (mp : List (Str × β)) : (kvG f mp).map (·.1) = (mp.map (·.1)).map Sum.inr := by unfold kvG; rw [List.map_map, List.map_map]; rfl
theorem putD_new {kds : List (Key × D)} {k : Key} {v : D} (h : k ∉ kds.map (·.1)) : putD kds k v = kds ++ [(k, v)] := by
  unfold putD
  rw [if_neg]
  intro hh
  obtain ⟨kv, h1, h2⟩ := List.any_eq_true.mp hh
  exact h (List.mem_map.mpr ⟨kv, h1, by simpa using h2⟩)
theorem mergeD_new : ∀ (more kds : List (Key × D)), (kds.map (·.1) ++ more.map (·.1)).Nodup → mergeD kds more = kds ++ more
  | [], kds, _ => by simp [mergeD]
  | kv :: more, kds, h => by
    have h1 : kv.1 ∉ kds.map (·.1) := by
      intro hm
      rw [List.nodup_append] at h
      exact h.2.2 _ hm _ (by simp) rfl
    have e : mergeD kds (kv :: more) = mergeD (putD kds kv.1 kv.2) more := rfl
    rw [e, putD_new h1, mergeD_new more _ (by simpa using h)]
    simp
theorem pairs_kvG : ∀ mp : List (Str × β), pairsD (mp.map fun p => D.tup [.str p.1, f p.2]) = some (kvG f mp)
  | [] => rfl
  | (a, b) :: mp => by
    have ih := pairs_kvG mp
    rw [List.map_cons]
    unfold pairsD
    simp only [keyD, ih]
    rfl
theorem cDict_kvG (mp : List (Str × β)) (hn : (mp.map (·.1)).Nodup) : cDict [.lst (mp.map fun p => D.tup [.str p.1, f p.2])] = some (.dct (kvG f mp)) := by
  unfold cDict
  simp only [pairs_kvG]
  rw [mergeD_new]
  · simp
  · rw [kvG_keys]
    simp only [List.map_nil, List.nil_append]
    exact List.Pairwise.map _ (fun a b h e => h (Sum.inr.inj e)) hn
end
theorem inD_dct (x : Str) (kds : List (Key × D)) : inD (.str x) (.dct kds) = some (valD kds (.inr x)).isSome := rfl
@[simp] theorem r_gInD (x : Str) (kds : List (Key × D)) : gIn (.str x) (.dct kds) = some (.bl (valD kds (.inr x)).isSome) := id rfl
@[simp] theorem r_gNotInD (x : Str) (kds : List (Key × D)) : gNotIn (.str x) (.dct kds) = some (.bl (!(valD kds (.inr x)).isSome)) := id rfl
@[simp] theorem r_dIdxD (x : Str) (kds : List (Key × D)) : dIdx (.dct kds) (.str x) = valD kds (.inr x) := id rfl
theorem gMax_ints (ns : List Int) : gMax [.lst (ns.map D.int)] = (maxI ns).map D.int := by
  have e : gMax [.lst (ns.map D.int)] = gOfInts (fun ns => (maxI ns).map D.int) [.lst (ns.map D.int)] := rfl
  rw [e]
  unfold gOfInts lstOf
  simp only [intsD_map]
theorem gMin_ints (ns : List Int) : gMin [.lst (ns.map D.int)] = (minI ns).map D.int := by
  have e : gMin [.lst (ns.map D.int)] = gOfInts (fun ns => (minI ns).map D.int) [.lst (ns.map D.int)] := rfl
  rw [e]
  unfold gOfInts lstOf
  simp only [intsD_map]
theorem maxI_spec {ns : List Int} (h : ns ≠ []) : ∃ m, maxI ns = some m ∧ m ∈ ns ∧ ∀ y ∈ ns, y ≤ m := by
  cases ns with
  | nil => exact absurd rfl h
  | cons x r =>
    obtain ⟨k1, k2⟩ := foldl_max_le r x
    refine ⟨_, rfl, ?_, fun y hy => ?_⟩
    · rcases foldl_max_mem r x with q | q
      · rw [q]; simp
      · exact List.mem_cons_of_mem _ q
    · rcases List.mem_cons.mp hy with rfl | hy
      · exact k1
      · exact k2 _ hy
theorem minI_spec {ns : List Int} (h : ns ≠ []) : ∃ m, minI ns = some m ∧ m ∈ ns ∧ ∀ y ∈ ns, m ≤ y := by
  cases ns with
  | nil => exact absurd rfl h
  | cons x r =>
    obtain ⟨k1, k2⟩ := foldl_min_le r x
    refine ⟨_, rfl, ?_, fun y hy => ?_⟩
    · rcases foldl_min_mem r x with q | q
      · rw [q]; simp
      · exact List.mem_cons_of_mem _ q
    · rcases List.mem_cons.mp hy with rfl | hy
      · exact k1
      · exact k2 _ hy
theorem lookup_isSome {β : Type} (k : Str) : ∀ mp : List (Str × β), (mp.lookup k).isSome = decide (k ∈ mp.map (·.1))
  | [] => by simp
  | (a, b) :: mp => by
    rw [List.lookup_cons]
    by_cases e : k = a
    · subst e; simp
    · have e' : (k == a) = false := by simpa using e
      rw [e']
      simp only [List.map_cons, List.mem_cons, e, false_or]
      exact lookup_isSome k mp
theorem lookup_get {β : Type} {k : Str} {b : β} : ∀ {mp : List (Str × β)}, mp.lookup k = some b → (k, b) ∈ mp
  | [], h => by simp at h
  | (a, c) :: mp, h => by
    rw [List.lookup_cons] at h
    by_cases e : k = a
    · subst e
      simp at h
      subst h
      simp
    · have e' : (k == a) = false := by simpa using e
      rw [e'] at h
      exact List.mem_cons_of_mem _ (lookup_get h)
end G
/-! Targets that unpack lists or tuples. -/
namespace G
open PySem L2
theorem pg_or {X : Cx} {e : Expr} {t t' : TG} (h : PG X e t) (h' : PG X e t') : PG X e (fun v σ H Q => t v σ H Q ∨ t' v σ H Q) := ⟨fun pins s σ H v u Q I r hw => hw.elim (h.run pins s σ H v u Q I r) (h'.run pins s σ H v u Q I r)⟩
def gSeqD (n : Nat) (g : GFs) : GF := fun s env M => match view M s with
  | some (.tup ds) => if ds.length = n then g ds env M else none
  | some (.lst ds) => if ds.length = n then g ds env M else none
  | _ => none
@[simp] theorem r_gSeqD (n : Nat) (g : GFs) (s : S) (env : Ev) (M : Ms) : gSeqD n g s env M = match view M s with
  | some d => match itemsOf d with
    | some ds => match d with
      | .scr _ => none
      | _ => if ds.length = n then g ds env M else none
    | none => none
  | none => none := by
  unfold gSeqD
  cases view M s with
  | none => rfl
  | some d => cases d <;> rfl
@[simp] theorem itemsOf_t (ds : List D) : itemsOf (.tup ds) = some ds := id rfl
@[simp] theorem itemsOf_l (ds : List D) : itemsOf (.lst ds) = some ds := id rfl
section
variable {W : Wd} {N : List Str} {sc : Scp} {es : List Expr} {pos : Pos}
theorem dg_seq {j : Nat} {g : GFs} (hs : es.all notStar = true) (h : DGs W N sc es g) : DG W N sc (.Tuple es j pos) (gSeqD es.length g) := by
  intro X gd
  refine PG.imp (pg_or (pg_tup (n := es.length) gd.calm (h X gd) (assign_len _ _) (assign_plain hs _)) (pg_lst (n := es.length) gd.calm (h X gd) (assign_len _ _) (assign_plain hs _))) fun v σ H Q h => ?_
  obtain ⟨s, env, M, env', M', F, κ, e, r, t, er, k⟩ := h
  unfold gSeqD at e
  split at e
  · rename_i ds e1
    split at e
    rotate_left
    · cases e
    rename_i hl
    obtain ⟨p, vs, rfl, hq, rs⟩ := (t.view r e1).tup_ t.sub
    exact .inl ⟨p, vs, rfl, by rw [gd.K]; exact hq, by rw [rs.length]; exact hl, ds, env, M, env', M', F, κ, e, rs, t, er, k⟩
  · rename_i ds e1
    split at e
    rotate_left
    · cases e
    rename_i hl
    obtain ⟨p, vs, rfl, hq, rs⟩ := (t.view r e1).lst_ t.sub
    exact .inr ⟨p, vs, rfl, .of hq, by rw [rs.length]; exact hl, ds, env, M, env', M', F, κ, e, rs, t, er, k⟩
  · cases e
end
end G
/-! len(set(xs)), xs a list of texts, all unlike. -/
namespace G
open PySem PySem.Spec L2 PyProof.Rows
theorem take_any_new {xs : List Str} (hn : xs.Nodup) {i : Nat} (hi : i < xs.length) : (xs.take i).any (· == xs.getD i Str.empty) = false := by
  rw [List.getD_eq_getElem?_getD, List.getElem?_eq_getElem hi]
  show (xs.take i).any (· == xs[i]) = false
  refine Bool.eq_false_iff.mpr fun h => ?_
  obtain ⟨x, hx, e⟩ := List.any_eq_true.mp h
  have e2 : x = xs[i] := beq_iff_eq.mp e
  obtain ⟨j, hj, e3⟩ := List.getElem_of_mem hx
  have hj' : j < i := by rw [List.length_take] at hj; omega
  have e4 : xs[j]'(Nat.lt_trans hj' hi) = xs[i] := by rw [← e2, ← e3, List.getElem_take]
  exact absurd e4 (List.pairwise_iff_getElem.mp hn j i (Nat.lt_trans hj' hi) hi hj')
theorem take_any_next {xs : List Str} {i : Nat} (hi : i < xs.length) (k : Str) : ((xs.take i).any (· == k) || decide (k = xs.getD i Str.empty)) = (xs.take (i + 1)).any (· == k) := by
  have e1 : xs.getD i Str.empty = xs[i] := by rw [List.getD_eq_getElem?_getD, List.getElem?_eq_getElem hi]; rfl
  rw [e1, List.take_succ, List.getElem?_eq_getElem hi, List.any_append]
  show _ = ((xs.take i).any (· == k) || ([xs[i]].any (· == k)))
  congr 1
  simp only [List.any_cons, List.any_nil, Bool.or_false]
  by_cases e : k = xs[i]
  · subst e; simp
  · rw [decide_eq_false e]; exact (beq_eq_false_iff_ne.mpr fun z => e z.symm).symm
section
variable {prog : Program} {w : World} {A : Around} {R : Result → Shared → Prop} {I : Addr} {fp wr : List Addr} {GG : Array GenState → Array GenState → Prop} {n : Nat} {P : Nat → Value → Prop} {St : Nat → Shared → Prop}
/-- set.update's turns over unlike texts: each lays one new -/
theorem turnsNew (W : WalksS prog w A.in1 I fp wr GG n P St) (S : Addr) (hSf : S ∉ fp) (xs : List Str) (hsz : xs.length = n) (hb : n < 64) (hnd : xs.Nodup)
    (hval : ∀ i v, P i v → ∃ t, v = .str (xs.getD i Str.empty) t) :
    ∀ (k i : Nat) (s : Shared), n - i = k → i ≤ n → St i s →
      s.heap.SetOf (PySem.strKind prog w) S (fun k' => (xs.take i).any (· == k')) i →
      (∀ s', Moved (S :: wr) GG s s' → s'.heap.SetOf (PySem.strKind prog w) S (fun k' => (xs.take n).any (· == k')) n → R (.ok (.ret .none)) s') →
      codeAny (model prog w) A (.builtin "set.update.loop" ⟨[.ref S, .ref I], []⟩) R s := by
  have hSw : S ∉ wr := fun h => hSf (W.sub _ h)
  have more : ∀ b ∈ wr, b ∈ S :: wr := fun b h => List.mem_cons_of_mem _ h
  have held : ∀ {c : Nat} {s s' : Shared}, Moved wr GG s s' → s.heap.SetOf (PySem.strKind prog w) S (fun k' => (xs.take c).any (· == k')) c → s'.heap.SetOf (PySem.strKind prog w) S (fun k' => (xs.take c).any (· == k')) c := fun hm ⟨o, es, ep, t, ho, rest⟩ => ⟨o, es, ep, t, hm.heap S _ hSw ho, rest⟩
  intro k
  induction k with
  | zero =>
    intro i s hk hi hst hS hR
    obtain rfl : i = n := by omega
    refine codeAny_builtin PyProof.Rows.F.entry_set_update_loop ?_
    rw [Around.under_plainId PyProof.Rows.F.plain_set_update_loop _]
    show wpAny _ A.in1 (pyNext (.ref I) >>= _) _ _ s
    refine wpAny_bind (W.done s _ _ hst fun s' hm => ?_)
    show wpAny _ A.in1 (ret Value.none) _ _ s'
    exact wpAny_pure (hR s' (hm.mono more) (held hm hS))
  | succ k ih =>
    intro i s hk hi hst hS hR
    have hlt : i < n := by omega
    have hlx : i < xs.length := by omega
    refine codeAny_builtin PyProof.Rows.F.entry_set_update_loop ?_
    rw [Around.under_plainId PyProof.Rows.F.plain_set_update_loop _]
    show wpAny _ A.in1 (pyNext (.ref I) >>= _) _ _ s
    refine wpAny_bind (W.item i s _ _ hlt hst fun v s' hP hst' hm => ?_)
    obtain ⟨t, rfl⟩ := hval i v hP
    have hS1 := held hm hS
    show wpAny _ A.in1 (holding [Value.str (xs.getD i Str.empty) t] (setAdd S (.str (xs.getD i Str.empty) t)) >>= _) _ _ s'
    refine wpAny_bind (wpAny_holding ?_)
    unfold setAdd
    refine wpAny_holding (wpAny_bind ((PySem.strKind prog w).pyHash (k := xs.getD i Str.empty) (strKind_is _ _ _ _) ?_))
    refine wpAny_setAddHashed_of (knd := PySem.strKind prog w) (s := { s' with toks := s'.toks + 1 }) (strKind_is _ _ _ _) rfl hS1 (by unfold scanBound; omega) fun h' hsb hS2 => ?_
    have hS3 : h'.SetOf (PySem.strKind prog w) S (fun k' => (xs.take (i + 1)).any (· == k')) (i + 1) := SetOf_congr hS2 (take_any_next hlx) (by simp only [take_any_new hnd hlx]; rfl)
    refine wpAny_pure ⟨plainId_quiet PyProof.Rows.F.plain_set_update_loop _, ih (i + 1) _ (by omega) hlt (W.frame _ s' _ _ hst' (Nat.le_succ _) fun b h o e => ?_) hS3 fun s2 hm2 hS4 => ?_⟩
    · rw [hsb.2 b (fun z : b = S => hSf (by rw [← z]; exact h))]; exact e
    · refine hR s2 (Moved.trans W.gtrans ((hm.mono more).then_heap (Nat.le_succ _) fun b o h e => ?_) hm2) hS4
      rw [hsb.2 b (fun z : b = S => h (by rw [z]; exact List.mem_cons_self))]; exact e
end
section
variable {prog : Program} {w : World} {A : Around} {E : Value → Shared → Prop} {s : Shared}
set_option maxHeartbeats 3200000 in
theorem call_setNew {l : Addr} {items : Array Value} {xs : List Str} {Q : Value → Shared → Prop} (hh : A.handled = none) (hl : s.heap.IsList l items) (hi : StrsAre items.toList xs) (hb : xs.length < 64) (hnd : xs.Nodup)
    (h : ∀ (h' : Heap) (tk : Nat), h'.SetOf (PySem.strKind prog w) s.heap.objs.size (fun k' => (xs.take items.size).any (· == k')) items.size →
      (∀ b o, b < s.heap.objs.size → s.heap.get? b = some o → h'.get? b = some o) → Q (.ref s.heap.objs.size) { s with heap := h', toks := tk }) :
    wpAny (model prog w) A (call (.type "set") [.ref l]) Q E s := by
  obtain ⟨c, tl, hmro⟩ := PySem.F.called_set.mro
  have hmade := PySem.F.called_set.made
  have hsub := PySem.F.called_set.sub
  have hN : ∀ led : Bool, (s.heap.push { cls := .type "set", dict := none, data := .set #[] 0 (.fresh 0 0 led) }).get? s.heap.objs.size = some { cls := .type "set", dict := none, data := .set #[] 0 (.fresh 0 0 led) } := fun led => Heap.get?_push_size _ rfl
  refine wpAny_call (codeAny_of_tree ?_)
  show wpAny _ _ (callAny (.type "set") _) _ _ _
  refine wpAny_pure ⟨Code.quiet_builtin _ (by decide +kernel), codeAny_builtin PySem.F.entry_type_call ?_⟩
  rw [Around.under_plain (weight_type_call_type "set" [.ref l] []) rfl]
  have h1 := PySem.F.called_set.notType
  have h2 := PySem.F.called_set.canCreate
  have hct := PySem.F.typeCall_set_1 (.ref l)
  repeat (any_goals (first | assumption | wp_step))
  refine codeAny_mono (code_set_new_1 (.ref l) (E := E) (Q₁ := fun obj s₁ => ∃ led : Bool, obj = .ref s.heap.objs.size ∧ s₁ = { s with heap := s.heap.push { cls := .type "set", dict := none, data := .set #[] 0 (.fresh 0 0 led) } }) fun led => ⟨led, rfl, rfl⟩) fun r s₁ hr => ?_
  cases r with
  | error e => exact hr
  | ok fl =>
    cases fl with
    | ret obj =>
      obtain ⟨led, rfl, rfl⟩ := hr
      have hT : Shared.TypeIs { s with heap := s.heap.push { cls := .type "set", dict := none, data := .set #[] 0 (.fresh 0 0 led) } } (.ref s.heap.objs.size) "set" := ⟨_, hN led, rfl⟩
      have hli := PySem.F.called_set.init.lookup
      have hbi := PySem.F.called_set.init.bind (.ref s.heap.objs.size)
      repeat (any_goals (first | assumption | wp_step))
      refine codeAny_mono (codeAny_call_builtin (R := wants (fun r s₂ => r = .none ∧ ∃ h' tk, s₂ = { s with heap := h', toks := tk } ∧
          h'.SetOf (PySem.strKind prog w) s.heap.objs.size (fun k' => (xs.take items.size).any (· == k')) items.size ∧
          (∀ b o, b < s.heap.objs.size → s.heap.get? b = some o → h'.get? b = some o)) E) PySem.F.called_set.init.plain PySem.F.entry_set_init (check_set_init_1 hT ?_)) fun r₂ s₂ hr₂ => ?_
      · obtain ⟨⟨ocls, odict, odata, oslots⟩, hol, hcl, nl, hdl⟩ := hl
        simp only at hcl hdl
        subst hcl; subst hdl
        have hol' : (s.heap.push { cls := .type "set", dict := none, data := .set #[] 0 (.fresh 0 0 led) }).get? l = some { cls := .type "list", dict := odict, data := .seq items nl, slots := oslots } := Heap.get?_push_of_some _ hol
        have hsls := PySem.F.sub_list_set
        have hslf := PySem.F.sub_list_frozenset
        have hne : (Value.type "list" == Value.type "dict") = false := by decide
        have hl1 : (s.heap.push { cls := .type "set", dict := none, data := .set #[] 0 (.fresh 0 0 led) }).IsList l items := ⟨_, hol', rfl, nl, rfl⟩
        unfold Builtin.«set.__init__» noKeywords Builtin.Frozenset.updateFrom
        generalize hPI : pyIter = PI
        wp_walk
        subst hPI
        refine wpAny_pyIter_list hl1 ?_
        refine wpAny_bind (wpAny_runValue ?_)
        have hlS : l < s.heap.objs.size := Heap.lt_size hol
        have hsz : xs.length = items.size := by rw [← StrsAre.len_eq hi, Array.length_toList]
        have hps : (s.heap.push { cls := .type "set", dict := none, data := .set #[] 0 (.fresh 0 0 led) }).objs.size = s.heap.objs.size + 1 := Heap.size_push _ _
        refine turnsNew ((Walks.list (A := A.in1.in1.in1) (by simp [hh]) _ l (by rw [hps]; exact Nat.ne_of_lt (Nat.lt_succ_of_lt hlS)) items).toS) s.heap.objs.size
          (by rw [hps]; simp only [List.mem_cons, List.not_mem_nil, or_false, not_or]; exact ⟨Nat.ne_of_lt (Nat.lt_succ_self _), Nat.ne_of_gt hlS⟩) xs hsz (by omega) hnd (fun i v hv => SS.strs_at hi i v (by rw [Array.getElem?_toList]; exact hv)) (items.size - 0) 0 _ (by omega) (Nat.zero_le _)
          ⟨⟨_, Heap.get?_push_size _ rfl, rfl, rfl⟩, (hl1.push _)⟩ ?_ fun s' hm hS' => ?_
        · exact SetOf_congr ((setObjOf_fresh (knd := PySem.strKind prog w) led).setOf (Heap.get?_push_of_some _ (hN led)) (by unfold scanBound; omega)) (fun _ => rfl) rfl
        · obtain ⟨h', g', d', tk', os'⟩ := s'
          obtain rfl : g' = s.gens := hm.gens
          obtain rfl : d' = s.drawn := hm.drawn
          obtain rfl : os' = s.os := hm.os
          show wpAny _ _ _ _ _ _
          refine wpAny_pure ?_
          show wpAny _ _ (ret Value.none) _ _ _
          refine wpAny_pure ⟨rfl, h', tk', rfl, hS', fun b o hb1 e => hm.heap b o ?_ (Heap.get?_push_of_some _ (Heap.get?_push_of_some _ e))⟩
          rw [hps]
          simp only [List.mem_cons, List.not_mem_nil, or_false, not_or]
          exact ⟨Nat.ne_of_lt hb1, Nat.ne_of_lt (Nat.lt_succ_of_lt hb1)⟩
      · cases r₂ with
        | error e => exact hr₂
        | ok fl₂ =>
          cases fl₂ with
          | ret r =>
            obtain ⟨rfl, h', tk, rfl, hS', hk'⟩ := hr₂
            repeat (any_goals (first | assumption | wp_step))
            exact h _ _ hS' hk'
          | _ => exact hr₂.elim
    | _ => exact hr.elim
end
def tLenSetN (K : PySem.W.Frag) (ta : TE) : TE := fun σ H Q => ta σ H fun x H1 => ∃ l, ∃ xs : List Str, x = .ref l ∧ SqL K H1 l (xs.map V.str) ∧ xs.length < 64 ∧ xs.Nodup ∧ Q (.int xs.length) H1
theorem pe_lenSetN {X : Cx} {a : Expr} {ta : TE} {p p2 q pos : Pos} (hc : X.calm = true) (hg : Gl X "len") (hm : X.mg "len" = none) (hg2 : Gl X "set") (hm2 : X.mg "set" = none) (ha : PE X a ta)
    (na : starEach [a] X.env = (false, eval a X.env) :: starEach [] X.env := by rfl) : PE X (.Call (.Name "len" p) [.Call (.Name "set" p2) [a] [] q] [] pos) (tLenSetN X.K ta) := by
  refine ⟨fun pins s σ H Q I h => ?_⟩
  refine Call_ (ld_blt I hg hm PySem.boot_len ?_)
  refine PyProof.Rows.callWith_builtin1 (PyProof.Rows.args_cons ?_ rfl) rfl rfl
  refine Call_ (ld_blt I hg2 hm2 PyProof.Rows.boot_set ?_)
  refine PyProof.Rows.callWith_type1 (PyProof.Rows.args_cons (thn (ha.run pins s σ H _ I h) fun v s1 ⟨x, H1, I1, r1, q1⟩ => PyProof.Rows.args_nil ?_) na) na rfl
  obtain ⟨l, xs, rfl, hq, h1, hnd, q1⟩ := q1
  cases r1
  obtain ⟨its, r, pl, hz⟩ := I1.list hq
  have hl : its.toArray.size = xs.length := by rw [List.size_toArray, ← r.length, List.length_map]
  refine call_setNew (I1.ok.hd hc) pl.isList (by simpa using strsAre_of r) h1 hnd fun h' tk hS hk => ?_
  refine PyProof.Rows.args_nil ?_
  rw [hl] at hS
  obtain ⟨o, es, ep, t, ho, hex, hd, _, _, _, hf, hn⟩ := hS
  have I2 : Inv X pins σ H1 { s1 with heap := h', toks := tk } := I1.kept fun b o e => hk b o (Heap.lt_size e) e
  exact call_len_set ho hex hd hf (by rw [hn] <;> omega) ⟨.int xs.length, H1, I2.tok _, ⟨_, by rw [hn]⟩, q1⟩
end G
/-! len(set(xs)) as an expression; [x] * n. -/
namespace G
open PySem L2 PyProof.Rows
def lstStrs : D → Option (List Str)
  | .lst ds => strsD ds
  | _ => none
def eLenSet (fa : EF) : EF := fun env M => match fa env M with
  | some (s, M1) => match view M1 s with
    | some d => match lstStrs d with
      | some xs => if xs.length < 64 ∧ xs.Nodup then some (.d (.int (xs.length : Nat)), M1) else none
      | none => none
    | none => none
  | none => none
@[simp] theorem r_eLenSet (fa : EF) (env : Ev) (M : Ms) : eLenSet fa env M = match fa env M with
  | some (s, M1) => match view M1 s with
    | some d => match lstStrs d with
      | some xs => if xs.length < 64 ∧ xs.Nodup then some (.d (.int (xs.length : Nat)), M1) else none
      | none => none
    | none => none
  | none => none := id rfl
@[simp] theorem r_lstStrs (ds : List D) : lstStrs (.lst ds) = strsD ds := id rfl
section
variable {W : Wd} {N : List Str} {sc : Scp} {a : Expr} {fa : EF} {pos p p2 q : Pos}
theorem de_lenSet (hl : Free W sc "len") (hl2 : Free W sc "set") (hst : notStar a = true) (ha : DE W N sc a fa) : DE W N sc (.Call (.Name "len" p) [.Call (.Name "set" p2) [a] [] q] [] pos) (eLenSet fa) := by
  intro X gd
  refine PE.imp (pe_lenSetN gd.calm (gd.gl hl.1) (by rw [gd.mg]; exact hl.2) (gd.gl hl2.1) (by rw [gd.mg]; exact hl2.2) (ha X gd) (star_cons hst _ _)) fun σ H Q h => ?_
  obtain ⟨env, M, s', M', F, κ, e, t, er, k⟩ := h
  unfold eLenSet at e
  split at e
  rotate_left
  · cases e
  rename_i s M1 e1
  split at e
  rotate_left
  · cases e
  rename_i d e2
  split at e
  rotate_left
  · cases e
  rename_i xs e3
  split at e
  rotate_left
  · cases e
  rename_i hx
  simp only [Option.some.injEq, Prod.mk.injEq] at e
  obtain ⟨rfl, rfl⟩ := e
  refine ⟨env, M, s, M1, F, κ, e1, t, er, fun F1 κ1 H1 v x1 t1 r => ?_⟩
  cases d <;> first | (cases e3; done) | skip
  rename_i ds
  have e4 : strsD ds = some xs := e3
  obtain ⟨l, vs, rfl, q, rs⟩ := (t1.view r e2).lst_ t1.sub
  rw [strsD_eq e4] at rs
  rw [rs.strsV] at q
  exact ⟨l, xs, rfl, .of q, hx.1, hx.2, k F1 κ1 H1 _ x1 t1 (.int _)⟩
theorem e_lenSet {fx : List Fx} {cs : List Str} (L : Low fx cs W) (m : Fx.free "len" ∈ fx) (m2 : Fx.free "set" ∈ fx) (g : gOk sc "len" = true) (g2 : gOk sc "set" = true) (hst : notStar a = true) (ha : DE W N sc a fa) : DE W N sc (.Call (.Name "len" p) [.Call (.Name "set" p2) [a] [] q] [] pos) (eLenSet fa) := de_lenSet (L.free_ g m) (L.free_ g2 m2) hst ha
end
/-! ### a list a number of times -/
def gMulL : D → D → Option D
  | .lst ds, .int k => if 0 ≤ k ∧ k ≤ 1000 ∧ ds.length * k.toNat ≤ sizeLine then some (.lst (List.replicate k.toNat ds).flatten) else none
  | _, _ => none
@[simp] theorem r_gMulL (ds : List D) (k : Int) : gMulL (.lst ds) (.int k) = if 0 ≤ k ∧ k ≤ 1000 ∧ ds.length * k.toNat ≤ sizeLine then some (.lst (List.replicate k.toNat ds).flatten) else none := id rfl
theorem reps_rep {K : PySem.W.Frag} {cA : Str → Option Addr} {F : Hp} {vs : List V} {ds : List D} (r : Reps K cA F vs ds) : ∀ m : Nat, Reps K cA F (List.replicate m vs).flatten (List.replicate m ds).flatten
  | 0 => .nil
  | m + 1 => by
    rw [List.replicate_succ, List.replicate_succ, List.flatten_cons, List.flatten_cons]
    exact r.append (reps_rep r m)
theorem ops_mulL : OpS (binaryOp .Mult) gMulL := by
  intro W N sc X gd F H x y dx dy r hs hx hy e Q k
  cases dx <;> try (cases e; done)
  rename_i ds
  cases dy <;> try (cases e; done)
  rename_i i
  have e : (if 0 ≤ i ∧ i ≤ 1000 ∧ ds.length * i.toNat ≤ sizeLine then some (D.lst (List.replicate i.toNat ds).flatten) else none) = some r := e
  split at e
  rotate_left
  · cases e
  rename_i h
  cases e
  obtain ⟨p, vs, rfl, q1, r1⟩ := hx.lst_ hs
  obtain rfl := hy.int_
  refine ⟨_, op_rep, p, i, vs, rfl, rfl, q1, by omega, by omega, by rw [r1.length]; exact h.2.2, fun z hz => ?_⟩
  have n := New.one (o := .lst (List.replicate i.toNat vs).flatten) hs hz
  exact k _ _ _ n (.lst upd_same ((reps_rep r1 i.toNat).mono n.fr))
end G
/-! sorted(set(xs)), xs a list of ints. -/
namespace G
open PySem PySem.Spec L2 PyProof.Rows
section
variable {prog : Program} {w : World} {A : Around} {E : Value → Shared → Prop} {s : Shared}
set_option maxHeartbeats 3200000 in
theorem call_setI {l : Addr} {items : Array Value} {xs : List Int} {Q : Value → Shared → Prop} (hh : A.handled = none) (hl : s.heap.IsList l items) (hi : IntsAre items.toList xs) (hb : xs.length < 64)
    (h : ∀ (h' : Heap) (tk c : Nat), SetR w h' s.heap.objs.size (fun j => decide (j ∈ xs)) c → c ≤ xs.length →
      (∀ b o, b < s.heap.objs.size → s.heap.get? b = some o → h'.get? b = some o) → Q (.ref s.heap.objs.size) { s with heap := h', toks := tk }) :
    wpAny (model prog w) A (call (.type "set") [.ref l]) Q E s := by
  obtain ⟨c, tl, hmro⟩ := PySem.F.called_set.mro
  have hmade := PySem.F.called_set.made
  have hsub := PySem.F.called_set.sub
  have hN : (s.heap.push { cls := .type "set", dict := none, data := .set #[] 0 (.fresh 0 0 (!w.params.followText "set-order")) }).get? s.heap.objs.size = some { cls := .type "set", dict := none, data := .set #[] 0 (.fresh 0 0 (!w.params.followText "set-order")) } := Heap.get?_push_size _ rfl
  refine wpAny_call (codeAny_of_tree ?_)
  show wpAny _ _ (callAny (.type "set") _) _ _ _
  refine wpAny_pure ⟨Code.quiet_builtin _ (by decide +kernel), codeAny_builtin PySem.F.entry_type_call ?_⟩
  rw [Around.under_plain (weight_type_call_type "set" [.ref l] []) rfl]
  have h1 := PySem.F.called_set.notType
  have h2 := PySem.F.called_set.canCreate
  have hct := PySem.F.typeCall_set_1 (.ref l)
  repeat (any_goals (first | assumption | wp_step))
  refine codeAny_mono (code_set_led1 (.ref l) (E := E) (Q₁ := fun obj s₁ => obj = .ref s.heap.objs.size ∧ s₁ = { s with heap := s.heap.push { cls := .type "set", dict := none, data := .set #[] 0 (.fresh 0 0 (!w.params.followText "set-order")) } }) ⟨rfl, rfl⟩) fun r s₁ hr => ?_
  cases r with
  | error e => exact hr
  | ok fl =>
    cases fl with
    | ret obj =>
      obtain ⟨rfl, rfl⟩ := hr
      have hT : Shared.TypeIs { s with heap := s.heap.push { cls := .type "set", dict := none, data := .set #[] 0 (.fresh 0 0 (!w.params.followText "set-order")) } } (.ref s.heap.objs.size) "set" := ⟨_, hN, rfl⟩
      have hli := PySem.F.called_set.init.lookup
      have hbi := PySem.F.called_set.init.bind (.ref s.heap.objs.size)
      repeat (any_goals (first | assumption | wp_step))
      refine codeAny_mono (codeAny_call_builtin (R := wants (fun r s₂ => r = .none ∧ ∃ h' tk c, s₂ = { s with heap := h', toks := tk } ∧
          SetR w h' s.heap.objs.size (fun j => decide (j ∈ xs)) c ∧ c ≤ xs.length ∧
          (∀ b o, b < s.heap.objs.size → s.heap.get? b = some o → h'.get? b = some o)) E) PySem.F.called_set.init.plain PySem.F.entry_set_init (check_set_init_1 hT ?_)) fun r₂ s₂ hr₂ => ?_
      · obtain ⟨⟨ocls, odict, odata, oslots⟩, hol, hcl, nl, hdl⟩ := hl
        simp only at hcl hdl
        subst hcl; subst hdl
        have hol' : (s.heap.push { cls := .type "set", dict := none, data := .set #[] 0 (.fresh 0 0 (!w.params.followText "set-order")) }).get? l = some { cls := .type "list", dict := odict, data := .seq items nl, slots := oslots } := Heap.get?_push_of_some _ hol
        have hsls := PySem.F.sub_list_set
        have hslf := PySem.F.sub_list_frozenset
        have hne : (Value.type "list" == Value.type "dict") = false := by decide
        have hl1 : (s.heap.push { cls := .type "set", dict := none, data := .set #[] 0 (.fresh 0 0 (!w.params.followText "set-order")) }).IsList l items := ⟨_, hol', rfl, nl, rfl⟩
        unfold Builtin.«set.__init__» noKeywords Builtin.Frozenset.updateFrom
        generalize hPI : pyIter = PI
        wp_walk
        subst hPI
        refine wpAny_pyIter_list hl1 ?_
        refine wpAny_bind (wpAny_runValue ?_)
        have hlS : l < s.heap.objs.size := Heap.lt_size hol
        have hsz : items.size = xs.length := by have q := IntsAre.length hi; rw [Array.length_toList] at q; exact q
        have hps : (s.heap.push { cls := .type "set", dict := none, data := .set #[] 0 (.fresh 0 0 (!w.params.followText "set-order")) }).objs.size = s.heap.objs.size + 1 := Heap.size_push _ _
        have hval : ∀ (i : Nat) (v : Value), items[i]? = some v → ∃ k t, xs[i]? = some k ∧ v = .int k t := fun i v hv => by
          have h3 : i < xs.length := by rw [← hsz]; exact (Array.getElem?_eq_some_iff.mp hv).1
          obtain ⟨t, e⟩ := PyProof.Rows.IntsAre.int_at hi i v (by rw [Array.getElem?_toList]; exact hv)
          exact ⟨xs[i], t, List.getElem?_eq_getElem h3, by rw [e, List.getD_eq_getElem?_getD, List.getElem?_eq_getElem h3]; rfl⟩
        refine set_update_ints ((Walks.list (A := A.in1.in1.in1) (by simp [hh]) _ l (by rw [hps]; exact Nat.ne_of_lt (Nat.lt_succ_of_lt hlS)) items).toS) s.heap.objs.size
          (by rw [hps]; simp only [List.mem_cons, List.not_mem_nil, or_false, not_or]; exact ⟨Nat.ne_of_lt (Nat.lt_succ_self _), Nat.ne_of_gt hlS⟩) xs hsz (by unfold scanBound; omega) hval (items.size - 0) 0 _ (by omega) (Nat.zero_le _)
          ⟨⟨_, Heap.get?_push_size _ rfl, rfl, rfl⟩, (hl1.push _)⟩ ⟨0, Nat.le_refl 0, setR_new_at (Heap.get?_push_of_some _ hN)⟩ fun s' c' hm hc' hS' => ?_
        obtain ⟨h', g', d', tk', os'⟩ := s'
        obtain rfl : g' = s.gens := hm.gens
        obtain rfl : d' = s.drawn := hm.drawn
        obtain rfl : os' = s.os := hm.os
        show wpAny _ _ _ _ _ _
        refine wpAny_pure ?_
        show wpAny _ _ (ret Value.none) _ _ _
        rw [hsz] at hc'
        refine wpAny_pure ⟨rfl, h', tk', c', rfl, hS', hc', fun b o hb1 e => hm.heap b o ?_ (Heap.get?_push_of_some _ (Heap.get?_push_of_some _ e))⟩
        rw [hps]
        simp only [List.mem_cons, List.not_mem_nil, or_false, not_or]
        exact ⟨Nat.ne_of_lt hb1, Nat.ne_of_lt (Nat.lt_succ_of_lt hb1)⟩
      · cases r₂ with
        | error e => exact hr₂
        | ok fl₂ =>
          cases fl₂ with
          | ret r =>
            obtain ⟨rfl, h', tk, c', rfl, hS', hc', hk'⟩ := hr₂
            repeat (any_goals (first | assumption | wp_step))
            exact h _ _ _ hS' hc' hk'
          | _ => exact hr₂.elim
    | _ => exact hr.elim
end
/-- the members, each once, rising -/
def insU (x : Int) : List Int → List Int
  | [] => [x]
  | y :: r => if x < y then x :: y :: r else if x = y then y :: r else y :: insU x r
def setI (ns : List Int) : List Int := ns.foldr insU []
theorem insU_mem (x k : Int) : ∀ r : List Int, k ∈ insU x r ↔ k = x ∨ k ∈ r
  | [] => by simp [insU]
  | y :: r => by
    unfold insU
    split
    · simp
    · split
      · rename_i h; subst h; simp
      · simp [insU_mem x k r]
        constructor
        · rintro (h | h | h) <;> simp [h]
        · rintro (h | h | h) <;> simp [h]
theorem insU_rise (x : Int) : ∀ {r : List Int}, r.Pairwise (· < ·) → (insU x r).Pairwise (· < ·)
  | [], _ => by simp [insU]
  | y :: r, h => by
    obtain ⟨h1, h2⟩ := List.pairwise_cons.mp h
    unfold insU
    split
    · rename_i hx
      exact List.pairwise_cons.mpr ⟨fun z hz => by rcases List.mem_cons.mp hz with rfl | hz; exact hx; have := h1 z hz; omega, h⟩
    · split
      · exact h
      · rename_i h3 h4
        refine List.pairwise_cons.mpr ⟨fun z hz => ?_, insU_rise x h2⟩
        rcases (insU_mem x z r).mp hz with rfl | hz
        · omega
        · exact h1 z hz
theorem setI_mem (k : Int) : ∀ ns : List Int, k ∈ setI ns ↔ k ∈ ns
  | [] => by simp [setI]
  | n :: ns => by
    have ih := setI_mem k ns
    unfold setI at *
    rw [List.foldr_cons, insU_mem, ih]
    simp
theorem setI_rise : ∀ ns : List Int, (setI ns).Pairwise (· < ·)
  | [] => List.Pairwise.nil
  | n :: ns => insU_rise n (setI_rise ns)
theorem rise_nodup {ns : List Int} (h : ns.Pairwise (· < ·)) : ns.Nodup := h.imp fun h e => by omega
theorem rise_uniq {ms ns : List Int} (h1 : ms.Pairwise (· < ·)) (h2 : ns.Pairwise (· < ·)) (h : ∀ k, k ∈ ms ↔ k ∈ ns) : ms = ns :=
  List.Perm.eq_of_pairwise (le := (· < ·)) (fun a b _ _ h1 h2 => by omega) h1 h2 ((List.perm_ext_iff_of_nodup (rise_nodup h1) (rise_nodup h2)).mpr h)
def tSortedSet (K : PySem.W.Frag) (ta : TE) : TE := fun σ H Q => ta σ H fun x H1 => ∃ l, ∃ ns : List Int, x = .ref l ∧ SqL K H1 l (ns.map V.int) ∧ ns.length < 64 ∧ ∀ p, H1 p = none → Q (.ref p) (upd H1 p (.lst ((setI ns).map V.int)))
theorem pe_sortedSet {X : Cx} {a : Expr} {ta : TE} {p p2 q pos : Pos} (hc : X.calm = true) (hg : Gl X "sorted") (hm : X.mg "sorted" = none) (hg2 : Gl X "set") (hm2 : X.mg "set" = none) (ha : PE X a ta)
    (na : starEach [a] X.env = (false, eval a X.env) :: starEach [] X.env := by rfl) : PE X (.Call (.Name "sorted" p) [.Call (.Name "set" p2) [a] [] q] [] pos) (tSortedSet X.K ta) := by
  refine ⟨fun pins s σ H Q I h => ?_⟩
  refine Call_ (ld_blt I hg hm PyProof.Rows.boot_sorted ?_)
  refine PyProof.Rows.callWith_builtin1 (PyProof.Rows.args_cons ?_ rfl) rfl rfl
  refine Call_ (ld_blt I hg2 hm2 PyProof.Rows.boot_set ?_)
  refine PyProof.Rows.callWith_type1 (PyProof.Rows.args_cons (thn (ha.run pins s σ H _ I h) fun v s1 ⟨x, H1, I1, r1, q1⟩ => PyProof.Rows.args_nil ?_) na) na rfl
  obtain ⟨l, ns, rfl, hq, h1, q1⟩ := q1
  cases r1
  obtain ⟨its, r, pl, hz⟩ := I1.list hq
  refine call_setI (I1.ok.hd hc) pl.isList (by simpa using r.ints) h1 fun h' tk c hS hcn hk => ?_
  refine PyProof.Rows.args_nil ?_
  have I2 : Inv X pins σ H1 { s1 with heap := h', toks := tk } := I1.kept fun b o e => hk b o (Heap.lt_size e) e
  refine sorted_set hS (I2.ok.hd hc) (by omega) fun s' p out c2 ms k g o hp hg hi hs hm2 hl => ?_
  have ems : ms = setI ns := rise_uniq hs (setI_rise ns) fun k => by rw [hm2 k, setI_mem]; simp
  have hlen : (ms.map V.int).length ≤ sizeLine := by rw [List.length_map, hl, sizeLine_eq]; omega
  obtain ⟨s2, hs2⟩ : ∃ s2 : Shared, s2 = { s1 with heap := h', toks := tk } := ⟨_, rfl⟩
  rw [← hs2] at I2 k g o hp
  have hn : H1 p = none := I2.hok.fresh hp
  have J : Inv X pins σ (upd H1 p (.lst (ms.map V.int))) { s2 with heap := s'.heap, gens := s'.gens, drawn := s'.drawn, toks := s'.toks } :=
    I2.call (ch := []) (Un.laid k hp hn) (I2.hok.laid k hp ⟨hlen, out.toList, c2, vals_of_ints hi, hg⟩) (by rw [g]; exact I2.bare) (fun _ z => nomatch z)
  have e : s' = { s2 with heap := s'.heap, gens := s'.gens, drawn := s'.drawn, toks := s'.toks } := by
    cases s'
    cases s2
    cases o
    rfl
  rw [e]
  rw [ems] at J
  exact ⟨.ref p, _, J, rfl, q1 p hn⟩
end G
/-! sorted(set(xs)) as a fresh list. -/
namespace G
open PySem L2 PyProof.Rows
def lstInts : D → Option (List Int)
  | .lst ds => intsD ds
  | _ => none
def cSortedSet (fa : EF) : CF := fun env M => match fa env M with
  | some (s, M1) => match view M1 s with
    | some d => match lstInts d with
      | some ns => if ns.length < 64 then some (.lst ((setI ns).map .int), M1) else none
      | none => none
    | none => none
  | none => none
@[simp] theorem r_lstInts (ds : List D) : lstInts (.lst ds) = intsD ds := id rfl
@[simp] theorem r_cSortedSet (fa : EF) (env : Ev) (M : Ms) : cSortedSet fa env M = match fa env M with
  | some (s, M1) => match view M1 s with
    | some d => match lstInts d with
      | some ns => if ns.length < 64 then some (.lst ((setI ns).map .int), M1) else none
      | none => none
    | none => none
  | none => none := id rfl
section
variable {W : Wd} {N : List Str} {sc : Scp} {a : Expr} {fa : EF} {pos p p2 q : Pos}
theorem reps_ints {K : PySem.W.Frag} {cA : Str → Option Addr} {F : Hp} : ∀ ns : List Int, Reps K cA F (ns.map V.int) (ns.map D.int)
  | [] => .nil
  | n :: ns => .cons (.int n) (reps_ints ns)
theorem df_sortedSet (hl : Free W sc "sorted") (hl2 : Free W sc "set") (hst : notStar a = true) (ha : DE W N sc a fa) : DF W N sc (.Call (.Name "sorted" p) [.Call (.Name "set" p2) [a] [] q] [] pos) (cSortedSet fa) := by
  intro X gd
  refine PE.imp (pe_sortedSet gd.calm (gd.gl hl.1) (by rw [gd.mg]; exact hl.2) (gd.gl hl2.1) (by rw [gd.mg]; exact hl2.2) (ha X gd) (star_cons hst _ _)) fun σ H Q h => ?_
  obtain ⟨env, M, c0, M', F, κ, e, t, er, k⟩ := h
  unfold cSortedSet at e
  split at e
  rotate_left
  · cases e
  rename_i s M1 e1
  split at e
  rotate_left
  · cases e
  rename_i d e2
  split at e
  rotate_left
  · cases e
  rename_i ns e3
  split at e
  rotate_left
  · cases e
  rename_i h64
  simp only [Option.some.injEq, Prod.mk.injEq] at e
  obtain ⟨rfl, rfl⟩ := e
  refine ⟨env, M, s, M1, F, κ, e1, t, er, fun F1 κ1 H1 v x1 t1 r => ?_⟩
  cases d <;> first | (cases e3; done) | skip
  rename_i ds
  have e4 : intsD ds = some ns := e3
  obtain ⟨l, vs, rfl, q, rs⟩ := (t1.view r e2).lst_ t1.sub
  rw [intsD_eq e4] at rs
  rw [rs.intsV] at q
  exact ⟨l, ns, rfl, .of q, h64, fun q' hq => k F1 κ1 _ q' x1 (t1.new (New.oneH t1.sub hq)) (t1.fresh hq) rfl ⟨t1.sub.none hq, _, upd_same, reps_ints (setI ns)⟩⟩
theorem f_sortedSet {fx : List Fx} {cs : List Str} (L : Low fx cs W) (m : Fx.free "sorted" ∈ fx) (m2 : Fx.free "set" ∈ fx) (g : gOk sc "sorted" = true) (g2 : gOk sc "set" = true) (hst : notStar a = true) (ha : DE W N sc a fa) : DF W N sc (.Call (.Name "sorted" p) [.Call (.Name "set" p2) [a] [] q] [] pos) (cSortedSet fa) := df_sortedSet (L.free_ g m) (L.free_ g2 m2) hst ha
end
end G
namespace K71
open PySem L2 G
abbrev top (i : Nat) : Stmt := PySem.Challenge.pw_goodsbypapers_k71_money_day_by_day.main.body.getD i (.Pass ⟨0, 0, 0, 0⟩)
def cs : List Str := ["Draft"]
def fa : List Fx := [.free "range",
  .free "min",
  .free "max",
  .free "isinstance",
  .free "bool",
  .free "int",
  .free "all",
  .tree "SMALL" (.str "abcdefghijklmnopqrstuvwxyz"),
  .tree "FIGURES" (.str "0123456789"),
  .free "len",
  .free "str",
  .free "tuple",
  .free "list",
  .free "enumerate",
  .cls "Draft",
  .free "sum",
  .free "sorted",
  .free "set",
  .noat "Draft" "money",
  .noat "Draft" "drawer",
  .noat "Draft" "payer",
  .noat "Draft" "due",
  .noat "Draft" "is_taken",
  .mkr "Draft",
  .notru "Draft",
  .isi "Draft",
  .kit (.bt "NoneType") (.bt "bool") false,
  .kit (.bt "NoneType") (.bt "int") false,
  .kit (.bt "NoneType") (.bt "list") false,
  .kit (.bt "NoneType") (.bt "str") false,
  .kit (.bt "NoneType") (.bt "tuple") false,
  .kit (.bt "NoneType") (.cl "Draft") false,
  .kit (.bt "bool") (.bt "bool") true,
  .kit (.bt "bool") (.bt "int") true,
  .kit (.bt "bool") (.bt "list") false,
  .kit (.bt "bool") (.bt "str") false,
  .kit (.bt "bool") (.bt "tuple") false,
  .kit (.bt "bool") (.cl "Draft") false,
  .kit (.bt "int") (.bt "bool") false,
  .kit (.bt "int") (.bt "int") true,
  .kit (.bt "int") (.bt "list") false,
  .kit (.bt "int") (.bt "str") false,
  .kit (.bt "int") (.bt "tuple") false,
  .kit (.bt "int") (.cl "Draft") false,
  .kit (.bt "str") (.bt "bool") false,
  .kit (.bt "str") (.bt "int") false,
  .kit (.bt "str") (.bt "list") false,
  .kit (.bt "str") (.bt "str") true,
  .kit (.bt "str") (.bt "tuple") false,
  .kit (.bt "str") (.cl "Draft") false,
  .kit (.bt "tuple") (.bt "bool") false,
  .kit (.bt "tuple") (.bt "int") false,
  .kit (.bt "tuple") (.bt "list") false,
  .kit (.bt "tuple") (.bt "str") false,
  .kit (.bt "tuple") (.bt "tuple") true,
  .kit (.bt "tuple") (.cl "Draft") false,
  .kit (.bt "list") (.bt "bool") false,
  .kit (.bt "list") (.bt "int") false,
  .kit (.bt "list") (.bt "list") true,
  .kit (.bt "list") (.bt "str") false,
  .kit (.bt "list") (.bt "tuple") false,
  .kit (.bt "list") (.cl "Draft") false,
  .kit (.bt "dict") (.bt "bool") false,
  .kit (.bt "dict") (.bt "int") false,
  .kit (.bt "dict") (.bt "list") false,
  .kit (.bt "dict") (.bt "str") false,
  .kit (.bt "dict") (.bt "tuple") false,
  .kit (.bt "dict") (.cl "Draft") false,
  .kit (.cl "Draft") (.bt "bool") false,
  .kit (.cl "Draft") (.bt "int") false,
  .kit (.cl "Draft") (.bt "list") false,
  .kit (.cl "Draft") (.bt "str") false,
  .kit (.cl "Draft") (.bt "tuple") false,
  .kit (.cl "Draft") (.cl "Draft") true,
  .glo "is_integer",
  .glo "is_number",
  .glo "check_number",
  .glo "is_name",
  .glo "is_row",
  .glo "check_passed",
  .glo "worth",
  .glo "_law_number",
  .glo "_law_take",
  .glo "in_turn",
  .glo "check_name",
  .glo "owed_on",
  .glo "first_lacking",
  .glo "_law_pick",
  .glo "law"]
theorem mf0 : Fx.free "range" ∈ fa := List.mem_of_getElem? (i := 0) rfl
theorem mf1 : Fx.free "min" ∈ fa := List.mem_of_getElem? (i := 1) rfl
theorem mf2 : Fx.free "max" ∈ fa := List.mem_of_getElem? (i := 2) rfl
theorem mf3 : Fx.free "isinstance" ∈ fa := List.mem_of_getElem? (i := 3) rfl
theorem mf4 : Fx.free "bool" ∈ fa := List.mem_of_getElem? (i := 4) rfl
theorem mf5 : Fx.free "int" ∈ fa := List.mem_of_getElem? (i := 5) rfl
theorem mf6 : Fx.free "all" ∈ fa := List.mem_of_getElem? (i := 6) rfl
theorem mf7 : Fx.tree "SMALL" (.str "abcdefghijklmnopqrstuvwxyz") ∈ fa := List.mem_of_getElem? (i := 7) rfl
theorem mf8 : Fx.tree "FIGURES" (.str "0123456789") ∈ fa := List.mem_of_getElem? (i := 8) rfl
theorem mf9 : Fx.free "len" ∈ fa := List.mem_of_getElem? (i := 9) rfl
theorem mf10 : Fx.free "str" ∈ fa := List.mem_of_getElem? (i := 10) rfl
theorem mf11 : Fx.free "tuple" ∈ fa := List.mem_of_getElem? (i := 11) rfl
theorem mf12 : Fx.free "list" ∈ fa := List.mem_of_getElem? (i := 12) rfl
theorem mf13 : Fx.free "enumerate" ∈ fa := List.mem_of_getElem? (i := 13) rfl
theorem mf14 : Fx.cls "Draft" ∈ fa := List.mem_of_getElem? (i := 14) rfl
theorem mf15 : Fx.free "sum" ∈ fa := List.mem_of_getElem? (i := 15) rfl
theorem mf16 : Fx.free "sorted" ∈ fa := List.mem_of_getElem? (i := 16) rfl
theorem mf17 : Fx.free "set" ∈ fa := List.mem_of_getElem? (i := 17) rfl
theorem mf18 : Fx.noat "Draft" "money" ∈ fa := List.mem_of_getElem? (i := 18) rfl
theorem mf19 : Fx.noat "Draft" "drawer" ∈ fa := List.mem_of_getElem? (i := 19) rfl
theorem mf20 : Fx.noat "Draft" "payer" ∈ fa := List.mem_of_getElem? (i := 20) rfl
theorem mf21 : Fx.noat "Draft" "due" ∈ fa := List.mem_of_getElem? (i := 21) rfl
theorem mf22 : Fx.noat "Draft" "is_taken" ∈ fa := List.mem_of_getElem? (i := 22) rfl
theorem mf23 : Fx.mkr "Draft" ∈ fa := List.mem_of_getElem? (i := 23) rfl
theorem mf24 : Fx.notru "Draft" ∈ fa := List.mem_of_getElem? (i := 24) rfl
theorem mf25 : Fx.isi "Draft" ∈ fa := List.mem_of_getElem? (i := 25) rfl
theorem mf26 : Fx.kit (.bt "NoneType") (.bt "bool") false ∈ fa := List.mem_of_getElem? (i := 26) rfl
theorem mf27 : Fx.kit (.bt "NoneType") (.bt "int") false ∈ fa := List.mem_of_getElem? (i := 27) rfl
theorem mf28 : Fx.kit (.bt "NoneType") (.bt "list") false ∈ fa := List.mem_of_getElem? (i := 28) rfl
theorem mf29 : Fx.kit (.bt "NoneType") (.bt "str") false ∈ fa := List.mem_of_getElem? (i := 29) rfl
theorem mf30 : Fx.kit (.bt "NoneType") (.bt "tuple") false ∈ fa := List.mem_of_getElem? (i := 30) rfl
theorem mf31 : Fx.kit (.bt "NoneType") (.cl "Draft") false ∈ fa := List.mem_of_getElem? (i := 31) rfl
theorem mf32 : Fx.kit (.bt "bool") (.bt "bool") true ∈ fa := List.mem_of_getElem? (i := 32) rfl
theorem mf33 : Fx.kit (.bt "bool") (.bt "int") true ∈ fa := List.mem_of_getElem? (i := 33) rfl
theorem mf34 : Fx.kit (.bt "bool") (.bt "list") false ∈ fa := List.mem_of_getElem? (i := 34) rfl
theorem mf35 : Fx.kit (.bt "bool") (.bt "str") false ∈ fa := List.mem_of_getElem? (i := 35) rfl
theorem mf36 : Fx.kit (.bt "bool") (.bt "tuple") false ∈ fa := List.mem_of_getElem? (i := 36) rfl
theorem mf37 : Fx.kit (.bt "bool") (.cl "Draft") false ∈ fa := List.mem_of_getElem? (i := 37) rfl
theorem mf38 : Fx.kit (.bt "int") (.bt "bool") false ∈ fa := List.mem_of_getElem? (i := 38) rfl
theorem mf39 : Fx.kit (.bt "int") (.bt "int") true ∈ fa := List.mem_of_getElem? (i := 39) rfl
theorem mf40 : Fx.kit (.bt "int") (.bt "list") false ∈ fa := List.mem_of_getElem? (i := 40) rfl
theorem mf41 : Fx.kit (.bt "int") (.bt "str") false ∈ fa := List.mem_of_getElem? (i := 41) rfl
theorem mf42 : Fx.kit (.bt "int") (.bt "tuple") false ∈ fa := List.mem_of_getElem? (i := 42) rfl
theorem mf43 : Fx.kit (.bt "int") (.cl "Draft") false ∈ fa := List.mem_of_getElem? (i := 43) rfl
theorem mf44 : Fx.kit (.bt "str") (.bt "bool") false ∈ fa := List.mem_of_getElem? (i := 44) rfl
theorem mf45 : Fx.kit (.bt "str") (.bt "int") false ∈ fa := List.mem_of_getElem? (i := 45) rfl
theorem mf46 : Fx.kit (.bt "str") (.bt "list") false ∈ fa := List.mem_of_getElem? (i := 46) rfl
theorem mf47 : Fx.kit (.bt "str") (.bt "str") true ∈ fa := List.mem_of_getElem? (i := 47) rfl
theorem mf48 : Fx.kit (.bt "str") (.bt "tuple") false ∈ fa := List.mem_of_getElem? (i := 48) rfl
theorem mf49 : Fx.kit (.bt "str") (.cl "Draft") false ∈ fa := List.mem_of_getElem? (i := 49) rfl
theorem mf50 : Fx.kit (.bt "tuple") (.bt "bool") false ∈ fa := List.mem_of_getElem? (i := 50) rfl
theorem mf51 : Fx.kit (.bt "tuple") (.bt "int") false ∈ fa := List.mem_of_getElem? (i := 51) rfl
theorem mf52 : Fx.kit (.bt "tuple") (.bt "list") false ∈ fa := List.mem_of_getElem? (i := 52) rfl
theorem mf53 : Fx.kit (.bt "tuple") (.bt "str") false ∈ fa := List.mem_of_getElem? (i := 53) rfl
theorem mf54 : Fx.kit (.bt "tuple") (.bt "tuple") true ∈ fa := List.mem_of_getElem? (i := 54) rfl
theorem mf55 : Fx.kit (.bt "tuple") (.cl "Draft") false ∈ fa := List.mem_of_getElem? (i := 55) rfl
theorem mf56 : Fx.kit (.bt "list") (.bt "bool") false ∈ fa := List.mem_of_getElem? (i := 56) rfl
theorem mf57 : Fx.kit (.bt "list") (.bt "int") false ∈ fa := List.mem_of_getElem? (i := 57) rfl
theorem mf58 : Fx.kit (.bt "list") (.bt "list") true ∈ fa := List.mem_of_getElem? (i := 58) rfl
theorem mf59 : Fx.kit (.bt "list") (.bt "str") false ∈ fa := List.mem_of_getElem? (i := 59) rfl
theorem mf60 : Fx.kit (.bt "list") (.bt "tuple") false ∈ fa := List.mem_of_getElem? (i := 60) rfl
theorem mf61 : Fx.kit (.bt "list") (.cl "Draft") false ∈ fa := List.mem_of_getElem? (i := 61) rfl
theorem mf62 : Fx.kit (.bt "dict") (.bt "bool") false ∈ fa := List.mem_of_getElem? (i := 62) rfl
theorem mf63 : Fx.kit (.bt "dict") (.bt "int") false ∈ fa := List.mem_of_getElem? (i := 63) rfl
theorem mf64 : Fx.kit (.bt "dict") (.bt "list") false ∈ fa := List.mem_of_getElem? (i := 64) rfl
theorem mf65 : Fx.kit (.bt "dict") (.bt "str") false ∈ fa := List.mem_of_getElem? (i := 65) rfl
theorem mf66 : Fx.kit (.bt "dict") (.bt "tuple") false ∈ fa := List.mem_of_getElem? (i := 66) rfl
theorem mf67 : Fx.kit (.bt "dict") (.cl "Draft") false ∈ fa := List.mem_of_getElem? (i := 67) rfl
theorem mf68 : Fx.kit (.cl "Draft") (.bt "bool") false ∈ fa := List.mem_of_getElem? (i := 68) rfl
theorem mf69 : Fx.kit (.cl "Draft") (.bt "int") false ∈ fa := List.mem_of_getElem? (i := 69) rfl
theorem mf70 : Fx.kit (.cl "Draft") (.bt "list") false ∈ fa := List.mem_of_getElem? (i := 70) rfl
theorem mf71 : Fx.kit (.cl "Draft") (.bt "str") false ∈ fa := List.mem_of_getElem? (i := 71) rfl
theorem mf72 : Fx.kit (.cl "Draft") (.bt "tuple") false ∈ fa := List.mem_of_getElem? (i := 72) rfl
theorem mf73 : Fx.kit (.cl "Draft") (.cl "Draft") true ∈ fa := List.mem_of_getElem? (i := 73) rfl
theorem mf74 : Fx.glo "is_integer" ∈ fa := List.mem_of_getElem? (i := 74) rfl
theorem mf75 : Fx.glo "is_number" ∈ fa := List.mem_of_getElem? (i := 75) rfl
theorem mf76 : Fx.glo "check_number" ∈ fa := List.mem_of_getElem? (i := 76) rfl
theorem mf77 : Fx.glo "is_name" ∈ fa := List.mem_of_getElem? (i := 77) rfl
theorem mf78 : Fx.glo "is_row" ∈ fa := List.mem_of_getElem? (i := 78) rfl
theorem mf79 : Fx.glo "check_passed" ∈ fa := List.mem_of_getElem? (i := 79) rfl
theorem mf80 : Fx.glo "worth" ∈ fa := List.mem_of_getElem? (i := 80) rfl
theorem mf81 : Fx.glo "_law_number" ∈ fa := List.mem_of_getElem? (i := 81) rfl
theorem mf82 : Fx.glo "_law_take" ∈ fa := List.mem_of_getElem? (i := 82) rfl
theorem mf83 : Fx.glo "in_turn" ∈ fa := List.mem_of_getElem? (i := 83) rfl
theorem mf84 : Fx.glo "check_name" ∈ fa := List.mem_of_getElem? (i := 84) rfl
theorem mf85 : Fx.glo "owed_on" ∈ fa := List.mem_of_getElem? (i := 85) rfl
theorem mf86 : Fx.glo "first_lacking" ∈ fa := List.mem_of_getElem? (i := 86) rfl
theorem mf87 : Fx.glo "_law_pick" ∈ fa := List.mem_of_getElem? (i := 87) rfl
theorem mf88 : Fx.glo "law" ∈ fa := List.mem_of_getElem? (i := 88) rfl
def mtB (c : Str) : Option FSem := none
/-! is_integer -/
def N_is_integer : List Str := ["thing"]
def sc_is_integer : Scp := { defScope (top 6) with fs := fun _ => true }
theorem n0_is_integer : gOk sc_is_integer "isinstance" = true := by decide +kernel
theorem n1_is_integer : vOk N_is_integer sc_is_integer 0 "thing" = true := by decide +kernel
theorem n2_is_integer : gOk sc_is_integer "bool" = true := by decide +kernel
theorem n3_is_integer : gOk sc_is_integer "int" = true := by decide +kernel
def P_is_integer : {F : SF // ∀ W, Low fa cs W → (∀ c f, mtB c = some f → MethHas W c "__bool__" f) → DB W N_is_integer sc_is_integer (defBody (top 6)) F} := ⟨_, fun W L hB =>
  (db_one (ds_ret (de_and (e_isi L mf3 n0_is_integer rfl (vOk_v n1_is_integer) (ty_b PyProof.Rows.boot_int L mf5 n3_is_integer)) (de_one (de_notT hB L.pt (e_isi L mf3 n0_is_integer rfl (vOk_v n1_is_integer) (ty_b PyProof.Rows.boot_bool L mf4 n2_is_integer)))))))⟩
def B_is_integer : SF := P_is_integer.1
def F_is_integer : FSem := fnD 1 1 B_is_integer
theorem fs_is_integer : FnScope N_is_integer ["thing"] (defScope (top 6)) := ⟨rfl, rfl, rfl, by decide +kernel, rfl, by decide +kernel, by decide +kernel⟩
/-! is_number -/
def N_is_number : List Str := ["thing", "low", "high"]
def sc_is_number : Scp := { defScope (top 7) with fs := fun _ => true }
theorem n0_is_number : vOk N_is_number sc_is_number 1 "low" = true := by decide +kernel
theorem n1_is_number : vOk N_is_number sc_is_number 0 "thing" = true := by decide +kernel
theorem n2_is_number : vOk N_is_number sc_is_number 2 "high" = true := by decide +kernel
theorem n3_is_number : gOk sc_is_number "is_integer" = true := by decide +kernel
def P_is_number : {F : SF // ∀ W, Low fa cs W → (FnHas W "is_integer" F_is_integer) → DB W N_is_number sc_is_number (defBody (top 7)) F} := ⟨_, fun W L h_is_integer =>
  (db_one (ds_ret (de_and (e_f h_is_integer n3_is_number rfl rfl (da_cons rfl (vOk_v n1_is_number) da_nil)) (de_one (de_chain ops_le ops_le (by with_unfolding_all rfl) (vOk_v n0_is_number) (vOk_v n1_is_number) (vOk_v n2_is_number))))))⟩
def B_is_number : SF := P_is_number.1
def F_is_number : FSem := fnD 3 3 B_is_number
theorem fs_is_number : FnScope N_is_number ["thing", "low", "high"] (defScope (top 7)) := ⟨rfl, rfl, rfl, by decide +kernel, rfl, by decide +kernel, by decide +kernel⟩
/-! check_number -/
def N_check_number : List Str := ["part", "thing", "low", "high"]
def sc_check_number : Scp := { defScope (top 8) with fs := fun _ => true }
theorem n0_check_number : gOk sc_check_number "is_number" = true := by decide +kernel
theorem n1_check_number : vOk N_check_number sc_check_number 3 "high" = true := by decide +kernel
theorem n2_check_number : vOk N_check_number sc_check_number 2 "low" = true := by decide +kernel
theorem n3_check_number : vOk N_check_number sc_check_number 1 "thing" = true := by decide +kernel
def P_check_number : {F : SF // ∀ W, Low fa cs W → (∀ c f, mtB c = some f → MethHas W c "__bool__" f) → (FnHas W "is_number" F_is_number) → DB W N_check_number sc_check_number (defBody (top 8)) F} := ⟨_, fun W L hB h_is_number =>
  (db_one (ds_if (dt_not (dt_tru hB L.pt rfl (e_f h_is_number n0_check_number rfl rfl (da_cons rfl (vOk_v n3_check_number) (da_cons rfl (vOk_v n2_check_number) (da_cons rfl (vOk_v n1_check_number) da_nil)))))) (db_one ds_never) db_nil))⟩
def B_check_number : SF := P_check_number.1
def F_check_number : FSem := fnD 4 4 B_check_number
theorem fs_check_number : FnScope N_check_number ["part", "thing", "low", "high"] (defScope (top 8)) := ⟨rfl, rfl, rfl, by decide +kernel, rfl, by decide +kernel, by decide +kernel⟩
/-! is_name -/
def N_is_name : List Str := ["thing", "sign"]
def sc_is_name : Scp := { defScope (top 9) with fs := fun _ => true }
def cs0_is_name : Scope := { kind := .function, names := [(PySem.Str.ofString ".0", .local), (PySem.Str.ofString "sign", .local), (PySem.Str.ofString "SMALL", .globalImplicit), (PySem.Str.ofString "FIGURES", .globalImplicit)], isGenerator := false, isCoroutine := false, more := [] }
theorem n0_is_name : gOk sc_is_name "all" = true := by decide +kernel
theorem n1_is_name : vOk N_is_name sc_is_name 0 "thing" = true := by decide +kernel
theorem n2_is_name : BlkOk N_is_name (sc_is_name : Scp).toScope cs0_is_name [(PySem.Str.ofString "sign", 1)] := ⟨rfl, by decide +kernel, by decide +kernel, by decide +kernel, by decide +kernel⟩
theorem n3_is_name : sOk N_is_name (blkS cs0_is_name sc_is_name) 1 "sign" = true := by decide +kernel
theorem n4_is_name : vOk N_is_name (blkS cs0_is_name sc_is_name) 1 "sign" = true := by decide +kernel
theorem n5_is_name : gOk (blkS cs0_is_name sc_is_name) "SMALL" = true := by decide +kernel
theorem n6_is_name : gOk (blkS cs0_is_name sc_is_name) "FIGURES" = true := by decide +kernel
theorem n7_is_name : gOk sc_is_name "SMALL" = true := by decide +kernel
theorem n8_is_name : gOk sc_is_name "len" = true := by decide +kernel
theorem n9_is_name : gOk sc_is_name "isinstance" = true := by decide +kernel
theorem n10_is_name : gOk sc_is_name "str" = true := by decide +kernel
def P_is_name : {F : SF // ∀ W, Low fa cs W → (∀ c f, mtB c = some f → MethHas W c "__bool__" f) → DB W N_is_name sc_is_name (defBody (top 9)) F} := ⟨_, fun W L hB =>
  (db_cons (ds_if (t_w (w_o (dt_not (dt_tru hB L.pt rfl (e_isi L mf3 n9_is_name rfl (vOk_v n1_is_name) (ty_b PyProof.Rows.boot_str L mf10 n10_is_name)))) (w_o (dt_not (dt_chain ops_le ops_le (by with_unfolding_all rfl) de_int (e_bB cs_len boot_len L mf9 n8_is_name rfl rfl (da_cons rfl (vOk_v n1_is_name) da_nil)) de_int)) (w_o1 (dt_cmp ops_notin (by rfl) (de_idx rfl (vOk_v n1_is_name) de_int) (e_g (d := .str "abcdefghijklmnopqrstuvwxyz") L mf7 n7_is_name)))))) (db_one (ds_ret de_bool)) db_nil) (db_one (ds_ret (e_bB cs_all PyProof.Rows.boot_all L mf6 n0_is_name rfl rfl (da_cons rfl (de_tree (de_lc n2_is_name rfl (di_seq (vOk_v n1_is_name)) (gc_v n3_is_name (by decide)) dts_nil (de_cmp ops_in (by rfl) (vOk_v n4_is_name) (de_bin ops_add (e_g (d := .str "abcdefghijklmnopqrstuvwxyz") L mf7 n5_is_name) (e_g (d := .str "0123456789") L mf8 n6_is_name))))) da_nil)))))⟩
def B_is_name : SF := P_is_name.1
def F_is_name : FSem := fnD 1 2 B_is_name
theorem fs_is_name : FnScope N_is_name ["thing"] (defScope (top 9)) := ⟨rfl, rfl, rfl, by decide +kernel, rfl, by decide +kernel, by decide +kernel⟩
/-! is_row -/
def N_is_row : List Str := ["thing"]
def sc_is_row : Scp := { defScope (top 11) with fs := fun _ => true }
theorem n0_is_row : gOk sc_is_row "isinstance" = true := by decide +kernel
theorem n1_is_row : gOk sc_is_row "tuple" = true := by decide +kernel
theorem n2_is_row : gOk sc_is_row "list" = true := by decide +kernel
theorem n3_is_row : vOk N_is_row sc_is_row 0 "thing" = true := by decide +kernel
def P_is_row : {F : SF // ∀ W, Low fa cs W → DB W N_is_row sc_is_row (defBody (top 11)) F} := ⟨_, fun W L =>
  (db_one (ds_ret (e_isiT L mf3 n0_is_row rfl (vOk_v n3_is_row) (.cons (ty_b PyProof.Rows.boot_list L mf12 n2_is_row) (.cons (ty_b PyProof.Rows.boot_tuple L mf11 n1_is_row) .nil)) (by decide))))⟩
def B_is_row : SF := P_is_row.1
def F_is_row : FSem := fnD 1 1 B_is_row
theorem fs_is_row : FnScope N_is_row ["thing"] (defScope (top 11)) := ⟨rfl, rfl, rfl, by decide +kernel, rfl, by decide +kernel, by decide +kernel⟩
/-! check_passed -/
def N_check_passed : List Str := ["draft", "hands", "failing", "place", "hand"]
def sc_check_passed : Scp := { defScope (top 14) with fs := fun _ => true }
def cs0_check_passed : Scope := { kind := .function, names := [(PySem.Str.ofString ".0", .local), (PySem.Str.ofString "hand", .local), (PySem.Str.ofString "is_name", .globalImplicit)], isGenerator := false, isCoroutine := false, more := [] }
theorem n0_check_passed : gOk sc_check_passed "all" = true := by decide +kernel
theorem n1_check_passed : vOk N_check_passed sc_check_passed 2 "failing" = true := by decide +kernel
theorem n2_check_passed : BlkOk N_check_passed (sc_check_passed : Scp).toScope cs0_check_passed [(PySem.Str.ofString "hand", 4)] := ⟨rfl, by decide +kernel, by decide +kernel, by decide +kernel, by decide +kernel⟩
theorem n3_check_passed : sOk N_check_passed (blkS cs0_check_passed sc_check_passed) 4 "hand" = true := by decide +kernel
theorem n4_check_passed : gOk (blkS cs0_check_passed sc_check_passed) "is_name" = true := by decide +kernel
theorem n5_check_passed : vOk N_check_passed (blkS cs0_check_passed sc_check_passed) 4 "hand" = true := by decide +kernel
theorem n6_check_passed : gOk sc_check_passed "is_row" = true := by decide +kernel
theorem n7_check_passed : gOk sc_check_passed "enumerate" = true := by decide +kernel
theorem n8_check_passed : vOk N_check_passed sc_check_passed 1 "hands" = true := by decide +kernel
theorem n9_check_passed : sOk N_check_passed sc_check_passed 4 "hand" = true := by decide +kernel
theorem n10_check_passed : sOk N_check_passed sc_check_passed 3 "place" = true := by decide +kernel
theorem n11_check_passed : vOk N_check_passed sc_check_passed 4 "hand" = true := by decide +kernel
theorem n12_check_passed : gOk sc_check_passed "list" = true := by decide +kernel
theorem n13_check_passed : vOk N_check_passed sc_check_passed 3 "place" = true := by decide +kernel
theorem n14_check_passed : vOk N_check_passed sc_check_passed 0 "draft" = true := by decide +kernel
theorem n15_check_passed : gOk sc_check_passed "is_name" = true := by decide +kernel
theorem n16_check_passed : gOk sc_check_passed "isinstance" = true := by decide +kernel
theorem n17_check_passed : gOk sc_check_passed "Draft" = true := by decide +kernel
def P_check_passed : {F : SF // ∀ W, Low fa cs W → (∀ c f, mtB c = some f → MethHas W c "__bool__" f) → (FnHas W "is_name" F_is_name) → (FnHas W "is_row" F_is_row) → DB W N_check_passed sc_check_passed (defBody (top 14)) F} := ⟨_, fun W L hB h_is_name h_is_row =>
  (db_cons (ds_if (dt_not (dt_tru hB L.pt rfl (e_isi L mf3 n16_check_passed rfl (vOk_v n14_check_passed) (ty_c L mf14 n17_check_passed (by decide +kernel))))) (db_one ds_never) db_nil) (db_cons (ds_if (dt_not (dt_tru hB L.pt rfl (e_f h_is_row n6_check_passed rfl rfl (da_cons rfl (vOk_v n8_check_passed) da_nil)))) (db_one ds_never) db_nil) (db_cons (ds_for rfl (i_enA L mf13 n7_check_passed rfl (vOk_v n8_check_passed)) (dg_tup rfl (dgs_cons rfl (g_v n10_check_passed) (dgs_cons rfl (g_v n9_check_passed) dgs_nil))) (db_one (ds_if (t_w (w_o (dt_not (dt_tru hB L.pt rfl (e_f h_is_name n15_check_passed rfl rfl (da_cons rfl (vOk_v n11_check_passed) da_nil)))) (w_o (dt_cmp ops_in (by rfl) (vOk_v n11_check_passed) (de_tup (da_cons rfl (de_attr rfl (vOk_v n14_check_passed)) (da_cons rfl (de_attr rfl (vOk_v n14_check_passed)) da_nil)))) (w_o1 (dt_cmp ops_in (by rfl) (vOk_v n11_check_passed) (de_slice (de_tree (f_bT cf_list PyProof.Rows.boot_list L mf12 n12_check_passed rfl rfl (da_cons rfl (vOk_v n8_check_passed) da_nil))) do_none (do_some (vOk_v n13_check_passed)))))))) (db_one ds_never) db_nil))) (db_one (ds_if (t_w (w_o (dt_not (dt_tru hB L.pt rfl (e_f h_is_row n6_check_passed rfl rfl (da_cons rfl (vOk_v n1_check_passed) da_nil)))) (w_o1 (dt_not (dt_tru hB L.pt rfl (e_bB cs_all PyProof.Rows.boot_all L mf6 n0_check_passed rfl rfl (da_cons rfl (de_tree (de_lc n2_check_passed rfl (di_seq (vOk_v n1_check_passed)) (gc_v n3_check_passed (by decide)) dts_nil (e_f h_is_name n4_check_passed rfl rfl (da_cons rfl (vOk_v n5_check_passed) da_nil)))) da_nil))))))) (db_one ds_never) db_nil)))))⟩
def B_check_passed : SF := P_check_passed.1
def F_check_passed : FSem := fnD 3 5 B_check_passed
theorem fs_check_passed : FnScope N_check_passed ["draft", "hands", "failing"] (defScope (top 14)) := ⟨rfl, rfl, rfl, by decide +kernel, rfl, by decide +kernel, by decide +kernel⟩
/-! worth -/
def N_worth : List Str := ["draft", "day", "rate"]
def sc_worth : Scp := { defScope (top 15) with fs := fun _ => true }
theorem n0_worth : vOk N_worth sc_worth 0 "draft" = true := by decide +kernel
theorem n1_worth : gOk sc_worth "min" = true := by decide +kernel
theorem n2_worth : gOk sc_worth "max" = true := by decide +kernel
theorem n3_worth : vOk N_worth sc_worth 1 "day" = true := by decide +kernel
theorem n4_worth : vOk N_worth sc_worth 2 "rate" = true := by decide +kernel
theorem n5_worth : gOk sc_worth "check_number" = true := by decide +kernel
theorem n6_worth : gOk sc_worth "check_passed" = true := by decide +kernel
def P_worth : {F : SF // ∀ W, Low fa cs W → (FnHas W "check_number" F_check_number) → (FnHas W "check_passed" F_check_passed) → DB W N_worth sc_worth (defBody (top 15)) F} := ⟨_, fun W L h_check_number h_check_passed =>
  (db_cons (ds_expr rfl (e_f h_check_passed n6_worth rfl rfl (da_cons rfl (vOk_v n0_worth) (da_cons rfl (de_lst da_nil) (da_cons rfl (de_lst da_nil) da_nil))))) (db_cons (ds_expr rfl (e_f h_check_number n5_worth rfl rfl (da_cons rfl de_str (da_cons rfl (vOk_v n3_worth) (da_cons rfl de_int (da_cons rfl de_int da_nil)))))) (db_cons (ds_expr rfl (e_f h_check_number n5_worth rfl rfl (da_cons rfl de_str (da_cons rfl (vOk_v n4_worth) (da_cons rfl de_int (da_cons rfl de_int da_nil)))))) (db_one (ds_ret (de_bin ops_div (de_bin ops_mul (de_attr rfl (vOk_v n0_worth)) (de_bin ops_sub de_int (e_bB cs_min PyProof.Rows.boot_min L mf1 n1_worth rfl rfl (da_cons rfl de_int (da_cons rfl (de_bin ops_mul (e_bB cs_max PyProof.Rows.boot_max L mf2 n2_worth rfl rfl (da_cons rfl de_int (da_cons rfl (de_bin ops_sub (de_attr rfl (vOk_v n0_worth)) (vOk_v n3_worth)) da_nil))) (vOk_v n4_worth)) da_nil))))) de_int))))))⟩
def B_worth : SF := P_worth.1
def F_worth : FSem := fnD 3 3 B_worth
theorem fs_worth : FnScope N_worth ["draft", "day", "rate"] (defScope (top 15)) := ⟨rfl, rfl, rfl, by decide +kernel, rfl, by decide +kernel, by decide +kernel⟩
/-! _law_number -/
def N__law_number : List Str := ["script", "index", "cell", "turn", "rest", "step", "blend"]
def sc__law_number : Scp := { defScope (top 20) with fs := fun _ => true }
theorem n0__law_number : gOk sc__law_number "int" = true := by decide +kernel
theorem n1__law_number : vOk N__law_number sc__law_number 6 "blend" = true := by decide +kernel
theorem n2__law_number : sOk N__law_number sc__law_number 6 "blend" = true := by decide +kernel
theorem n3__law_number : vOk N__law_number sc__law_number 1 "index" = true := by decide +kernel
theorem n4__law_number : vOk N__law_number sc__law_number 2 "cell" = true := by decide +kernel
theorem n5__law_number : gOk sc__law_number "len" = true := by decide +kernel
theorem n6__law_number : vOk N__law_number sc__law_number 0 "script" = true := by decide +kernel
theorem n7__law_number : vOk N__law_number sc__law_number 4 "rest" = true := by decide +kernel
theorem n8__law_number : gOk sc__law_number "range" = true := by decide +kernel
theorem n9__law_number : vOk N__law_number sc__law_number 3 "turn" = true := by decide +kernel
theorem n10__law_number : sOk N__law_number sc__law_number 5 "step" = true := by decide +kernel
theorem n11__law_number : sOk N__law_number sc__law_number 4 "rest" = true := by decide +kernel
theorem n12__law_number : sOk N__law_number sc__law_number 3 "turn" = true := by decide +kernel
theorem n13__law_number : sOk N__law_number sc__law_number 2 "cell" = true := by decide +kernel
def P__law_number : {F : SF // ∀ W, Low fa cs W → DB W N__law_number sc__law_number (defBody (top 20)) F} := ⟨_, fun W L =>
  (db_cons (s_t rfl rfl (by decide +kernel) (dg_seq rfl (dgs_cons rfl (g_v n13__law_number) (dgs_cons rfl (g_v n12__law_number) dgs_nil))) (de_if (dt_cmp ops_ne (by rfl) (vOk_v n6__law_number) (de_lst da_nil)) (de_tup (da_cons rfl (de_idx rfl (vOk_v n6__law_number) (de_bin ops_mod (vOk_v n3__law_number) (e_bB cs_len boot_len L mf9 n5__law_number rfl rfl (da_cons rfl (vOk_v n6__law_number) da_nil)))) (da_cons rfl (de_bin ops_div (vOk_v n3__law_number) (e_bB cs_len boot_len L mf9 n5__law_number rfl rfl (da_cons rfl (vOk_v n6__law_number) da_nil))) da_nil))) (de_tup (da_cons rfl de_int (da_cons rfl de_int da_nil))))) (db_cons (s_v n11__law_number rfl (de_if (dt_cmp ops_lt (by rfl) (vOk_v n9__law_number) de_int) (de_bin ops_sub (vOk_v n4__law_number) (de_bin ops_pow de_int de_int)) de_int)) (db_cons (ds_for rfl (i_r1 L mf0 n8__law_number rfl (de_bin ops_mod (e_bT cs_int PyProof.Rows.boot_int L mf5 n0__law_number rfl rfl (da_cons rfl (vOk_v n9__law_number) da_nil)) de_int)) (g_v n10__law_number) (db_one (s_v n11__law_number rfl (de_bin ops_div (vOk_v n7__law_number) de_int)))) (db_cons (ds_if (dt_cmp ops_gt (by rfl) (vOk_v n7__law_number) de_int) (db_one (ds_ret (de_bin ops_mod (e_bT cs_int PyProof.Rows.boot_int L mf5 n0__law_number rfl rfl (da_cons rfl (vOk_v n7__law_number) da_nil)) de_int))) db_nil) (db_cons (s_v n2__law_number rfl (de_bin ops_mod (de_bin ops_add (de_bin ops_mul (e_bT cs_int PyProof.Rows.boot_int L mf5 n0__law_number rfl rfl (da_cons rfl (de_bin ops_add (vOk_v n4__law_number) (de_bin ops_mul de_int (vOk_v n3__law_number))) da_nil)) de_int) (de_bin ops_mul de_int (e_bB cs_len boot_len L mf9 n5__law_number rfl rfl (da_cons rfl (vOk_v n6__law_number) da_nil)))) de_int)) (db_cons (s_v n2__law_number rfl (de_bin ops_mod (de_bin ops_add (de_bin ops_mul (vOk_v n1__law_number) (vOk_v n1__law_number)) (de_bin ops_mul de_int (vOk_v n3__law_number))) de_int)) (db_one (ds_ret (e_bT cs_int PyProof.Rows.boot_int L mf5 n0__law_number rfl rfl (da_cons rfl (de_bin ops_mod (de_bin ops_add (de_bin ops_mul (vOk_v n1__law_number) de_int) (de_bin ops_div (vOk_v n1__law_number) de_int)) de_int) da_nil))))))))))⟩
def B__law_number : SF := P__law_number.1
def F__law_number : FSem := fnD 2 7 B__law_number
theorem fs__law_number : FnScope N__law_number ["script", "index"] (defScope (top 20)) := ⟨rfl, rfl, rfl, by decide +kernel, rfl, by decide +kernel, by decide +kernel⟩
/-! _law_take -/
def N__law_take : List Str := ["draw", "many"]
def sc__law_take : Scp := { defScope (top 21) with fs := fun _ => true }
theorem n0__law_take : gOk sc__law_take "int" = true := by decide +kernel
theorem n1__law_take : gOk sc__law_take "_law_number" = true := by decide +kernel
theorem n2__law_take : vOk N__law_take sc__law_take 0 "draw" = true := by decide +kernel
theorem n3__law_take : vOk N__law_take sc__law_take 1 "many" = true := by decide +kernel
def P__law_take : {F : SF // ∀ W, Low fa cs W → (FnHas W "_law_number" F__law_number) → DB W N__law_take sc__law_take (defBody (top 21)) F} := ⟨_, fun W L h__law_number =>
  (db_cons (ds_augS ops_iadd rfl (vOk_v n2__law_take) de_int de_int) (db_one (ds_ret (de_bin ops_mod (e_bT cs_int PyProof.Rows.boot_int L mf5 n0__law_take rfl rfl (da_cons rfl (e_f h__law_number n1__law_take rfl rfl (da_cons rfl (de_idx rfl (vOk_v n2__law_take) de_int) (da_cons rfl (e_bT cs_int PyProof.Rows.boot_int L mf5 n0__law_take rfl rfl (da_cons rfl (de_idx rfl (vOk_v n2__law_take) de_int) da_nil)) da_nil))) da_nil)) (vOk_v n3__law_take)))))⟩
def B__law_take : SF := P__law_take.1
def F__law_take : FSem := fnD 2 2 B__law_take
theorem fs__law_take : FnScope N__law_take ["draw", "many"] (defScope (top 21)) := ⟨rfl, rfl, rfl, by decide +kernel, rfl, by decide +kernel, by decide +kernel⟩
/-! in_turn -/
def N_in_turn : List Str := ["drafts", "place", "draft", "days", "found", "day"]
def sc_in_turn : Scp := { defScope (top 16) with fs := fun _ => true }
def cs0_in_turn : Scope := { kind := .function, names := [(PySem.Str.ofString ".0", .local), (PySem.Str.ofString "draft", .local), (PySem.Str.ofString "day", .free)], isGenerator := false, isCoroutine := false, more := [] }
def cs1_in_turn : Scope := { kind := .function, names := [(PySem.Str.ofString ".0", .local), (PySem.Str.ofString "draft", .local)], isGenerator := false, isCoroutine := false, more := [] }
theorem n0_in_turn : vOk N_in_turn sc_in_turn 4 "found" = true := by decide +kernel
theorem n1_in_turn : vOk N_in_turn sc_in_turn 3 "days" = true := by decide +kernel
theorem n2_in_turn : sOk N_in_turn sc_in_turn 5 "day" = true := by decide +kernel
theorem n3_in_turn : sOk N_in_turn sc_in_turn 4 "found" = true := by decide +kernel
theorem n4_in_turn : vOk N_in_turn sc_in_turn 0 "drafts" = true := by decide +kernel
theorem n5_in_turn : BlkOk N_in_turn (sc_in_turn : Scp).toScope cs0_in_turn [(PySem.Str.ofString "draft", 2)] := ⟨rfl, by decide +kernel, by decide +kernel, by decide +kernel, by decide +kernel⟩
theorem n6_in_turn : sOk N_in_turn (blkS cs0_in_turn sc_in_turn) 2 "draft" = true := by decide +kernel
theorem n7_in_turn : vOk N_in_turn (blkS cs0_in_turn sc_in_turn) 2 "draft" = true := by decide +kernel
theorem n8_in_turn : vOk N_in_turn (blkS cs0_in_turn sc_in_turn) 5 "day" = true := by decide +kernel
theorem n9_in_turn : sOk N_in_turn sc_in_turn 3 "days" = true := by decide +kernel
theorem n10_in_turn : gOk sc_in_turn "sorted" = true := by decide +kernel
theorem n11_in_turn : gOk sc_in_turn "set" = true := by decide +kernel
theorem n12_in_turn : BlkOk N_in_turn (sc_in_turn : Scp).toScope cs1_in_turn [(PySem.Str.ofString "draft", 2)] := ⟨rfl, by decide +kernel, by decide +kernel, by decide +kernel, by decide +kernel⟩
theorem n13_in_turn : sOk N_in_turn (blkS cs1_in_turn sc_in_turn) 2 "draft" = true := by decide +kernel
theorem n14_in_turn : vOk N_in_turn (blkS cs1_in_turn sc_in_turn) 2 "draft" = true := by decide +kernel
theorem n15_in_turn : gOk sc_in_turn "enumerate" = true := by decide +kernel
theorem n16_in_turn : sOk N_in_turn sc_in_turn 2 "draft" = true := by decide +kernel
theorem n17_in_turn : sOk N_in_turn sc_in_turn 1 "place" = true := by decide +kernel
theorem n18_in_turn : gOk sc_in_turn "isinstance" = true := by decide +kernel
theorem n19_in_turn : vOk N_in_turn sc_in_turn 2 "draft" = true := by decide +kernel
theorem n20_in_turn : gOk sc_in_turn "Draft" = true := by decide +kernel
theorem n21_in_turn : gOk sc_in_turn "is_row" = true := by decide +kernel
def P_in_turn : {F : SF // ∀ W, Low fa cs W → (∀ c f, mtB c = some f → MethHas W c "__bool__" f) → (FnHas W "is_row" F_is_row) → DB W N_in_turn sc_in_turn (defBody (top 16)) F} := ⟨_, fun W L hB h_is_row =>
  (db_cons (ds_if (dt_not (dt_tru hB L.pt rfl (e_f h_is_row n21_in_turn rfl rfl (da_cons rfl (vOk_v n4_in_turn) da_nil)))) (db_one ds_never) db_nil) (db_cons (ds_for rfl (i_enA L mf13 n15_in_turn rfl (vOk_v n4_in_turn)) (dg_tup rfl (dgs_cons rfl (g_v n17_in_turn) (dgs_cons rfl (g_v n16_in_turn) dgs_nil))) (db_one (ds_if (dt_not (dt_tru hB L.pt rfl (e_isi L mf3 n18_in_turn rfl (vOk_v n19_in_turn) (ty_c L mf14 n20_in_turn (by decide +kernel))))) (db_one ds_never) db_nil))) (db_cons (s_v n9_in_turn rfl (de_tree (f_sortedSet L mf16 mf17 n10_in_turn n11_in_turn rfl (de_tree (de_lc n12_in_turn rfl (di_seq (vOk_v n4_in_turn)) (gc_v n13_in_turn (by decide)) dts_nil (de_attr rfl (vOk_v n14_in_turn))))))) (db_cons (s_v n3_in_turn rfl (de_live (df_lst da_nil))) (db_cons (ds_for rfl (di_seq (vOk_v n1_in_turn)) (g_v n2_in_turn) (db_one (s_aA n3_in_turn (de_tree (de_lc n5_in_turn rfl (di_seq (vOk_v n4_in_turn)) (gc_v n6_in_turn (by decide)) (dts_one (dt_cmp ops_eq (by rfl) (de_attr rfl (vOk_v n7_in_turn)) (vOk_v n8_in_turn))) (vOk_v n7_in_turn)))))) (db_one (ds_ret (vOk_v n0_in_turn))))))))⟩
def B_in_turn : SF := P_in_turn.1
def F_in_turn : FSem := fnD 1 6 B_in_turn
theorem fs_in_turn : FnScope N_in_turn ["drafts"] (defScope (top 16)) := ⟨rfl, rfl, rfl, by decide +kernel, rfl, by decide +kernel, by decide +kernel⟩
/-! check_name -/
def N_check_name : List Str := ["part", "thing"]
def sc_check_name : Scp := { defScope (top 10) with fs := fun _ => true }
theorem n0_check_name : gOk sc_check_name "is_name" = true := by decide +kernel
theorem n1_check_name : vOk N_check_name sc_check_name 1 "thing" = true := by decide +kernel
def P_check_name : {F : SF // ∀ W, Low fa cs W → (∀ c f, mtB c = some f → MethHas W c "__bool__" f) → (FnHas W "is_name" F_is_name) → DB W N_check_name sc_check_name (defBody (top 10)) F} := ⟨_, fun W L hB h_is_name =>
  (db_one (ds_if (dt_not (dt_tru hB L.pt rfl (e_f h_is_name n0_check_name rfl rfl (da_cons rfl (vOk_v n1_check_name) da_nil)))) (db_one ds_never) db_nil))⟩
def B_check_name : SF := P_check_name.1
def F_check_name : FSem := fnD 2 2 B_check_name
theorem fs_check_name : FnScope N_check_name ["part", "thing"] (defScope (top 10)) := ⟨rfl, rfl, rfl, by decide +kernel, rfl, by decide +kernel, by decide +kernel⟩
/-! owed_on -/
def N_owed_on : List Str := ["drafts", "payer", "draft", "rows", "found"]
def sc_owed_on : Scp := { defScope (top 17) with fs := fun _ => true }
def cs0_owed_on : Scope := { kind := .function, names := [(PySem.Str.ofString ".0", .local), (PySem.Str.ofString "draft", .local), (PySem.Str.ofString "payer", .free)], isGenerator := false, isCoroutine := false, more := [] }
theorem n0_owed_on : vOk N_owed_on sc_owed_on 4 "found" = true := by decide +kernel
theorem n1_owed_on : vOk N_owed_on sc_owed_on 3 "rows" = true := by decide +kernel
theorem n2_owed_on : sOk N_owed_on sc_owed_on 2 "draft" = true := by decide +kernel
theorem n3_owed_on : vOk N_owed_on sc_owed_on 2 "draft" = true := by decide +kernel
theorem n4_owed_on : sOk N_owed_on sc_owed_on 4 "found" = true := by decide +kernel
theorem n5_owed_on : lOk N_owed_on sc_owed_on 3 "rows" = true := by decide +kernel
theorem n6_owed_on : gOk sc_owed_on "in_turn" = true := by decide +kernel
theorem n7_owed_on : vOk N_owed_on sc_owed_on 0 "drafts" = true := by decide +kernel
theorem n8_owed_on : BlkOk N_owed_on (sc_owed_on : Scp).toScope cs0_owed_on [(PySem.Str.ofString "draft", 2)] := ⟨rfl, by decide +kernel, by decide +kernel, by decide +kernel, by decide +kernel⟩
theorem n9_owed_on : sOk N_owed_on (blkS cs0_owed_on sc_owed_on) 2 "draft" = true := by decide +kernel
theorem n10_owed_on : vOk N_owed_on (blkS cs0_owed_on sc_owed_on) 2 "draft" = true := by decide +kernel
theorem n11_owed_on : vOk N_owed_on (blkS cs0_owed_on sc_owed_on) 1 "payer" = true := by decide +kernel
theorem n12_owed_on : gOk sc_owed_on "check_name" = true := by decide +kernel
theorem n13_owed_on : vOk N_owed_on sc_owed_on 1 "payer" = true := by decide +kernel
def P_owed_on : {F : SF // ∀ W, Low fa cs W → (FnHas W "in_turn" F_in_turn) → (∀ c f, mtB c = some f → MethHas W c "__bool__" f) → (FnHas W "check_name" F_check_name) → DB W N_owed_on sc_owed_on (defBody (top 17)) F} := ⟨_, fun W L h_in_turn hB h_check_name =>
  (db_cons (ds_expr rfl (e_f h_check_name n12_owed_on rfl rfl (da_cons rfl de_str (da_cons rfl (vOk_v n13_owed_on) da_nil)))) (db_cons (s_lcT n5_owed_on (by decide +kernel) n8_owed_on rfl (di_seq (e_f h_in_turn n6_owed_on rfl rfl (da_cons rfl (vOk_v n7_owed_on) da_nil))) (gc_v n9_owed_on (by decide)) (dts_one (t_w (w_a (dt_cmp ops_eq (by rfl) (de_attr rfl (vOk_v n10_owed_on)) (vOk_v n11_owed_on)) (w_a1 (dt_tru hB L.pt rfl (de_attr rfl (vOk_v n10_owed_on))))))) (vOk_v n10_owed_on)) (db_cons (s_v n4_owed_on rfl (de_live df_dct0)) (db_cons (ds_for rfl (di_seq (vOk_v n1_owed_on)) (g_v n2_owed_on) (db_one (s_t rfl rfl (by decide +kernel) (dg_sub rfl (vOk_v n0_owed_on) (de_attr rfl (vOk_v n3_owed_on))) (de_bin ops_add (de_get2 rfl rfl rfl rfl (vOk_v n0_owed_on) (de_attr rfl (vOk_v n3_owed_on)) de_int) (de_attr rfl (vOk_v n3_owed_on)))))) (db_one (ds_ret (vOk_v n0_owed_on)))))))⟩
def B_owed_on : SF := P_owed_on.1
def F_owed_on : FSem := fnD 2 5 B_owed_on
theorem fs_owed_on : FnScope N_owed_on ["drafts", "payer"] (defScope (top 17)) := ⟨rfl, rfl, rfl, by decide +kernel, rfl, by decide +kernel, by decide +kernel⟩
/-! first_lacking -/
def N_first_lacking : List Str := ["drafts", "payer", "money", "income", "gone", "day", "amount"]
def sc_first_lacking : Scp := { defScope (top 18) with fs := fun _ => true }
theorem n0_first_lacking : gOk sc_first_lacking "owed_on" = true := by decide +kernel
theorem n1_first_lacking : vOk N_first_lacking sc_first_lacking 1 "payer" = true := by decide +kernel
theorem n2_first_lacking : vOk N_first_lacking sc_first_lacking 0 "drafts" = true := by decide +kernel
theorem n3_first_lacking : sOk N_first_lacking sc_first_lacking 6 "amount" = true := by decide +kernel
theorem n4_first_lacking : sOk N_first_lacking sc_first_lacking 5 "day" = true := by decide +kernel
theorem n5_first_lacking : vOk N_first_lacking sc_first_lacking 2 "money" = true := by decide +kernel
theorem n6_first_lacking : vOk N_first_lacking sc_first_lacking 3 "income" = true := by decide +kernel
theorem n7_first_lacking : vOk N_first_lacking sc_first_lacking 5 "day" = true := by decide +kernel
theorem n8_first_lacking : vOk N_first_lacking sc_first_lacking 4 "gone" = true := by decide +kernel
theorem n9_first_lacking : sOk N_first_lacking sc_first_lacking 4 "gone" = true := by decide +kernel
theorem n10_first_lacking : vOk N_first_lacking sc_first_lacking 6 "amount" = true := by decide +kernel
theorem n11_first_lacking : gOk sc_first_lacking "check_number" = true := by decide +kernel
def P_first_lacking : {F : SF // ∀ W, Low fa cs W → (FnHas W "owed_on" F_owed_on) → (FnHas W "check_number" F_check_number) → DB W N_first_lacking sc_first_lacking (defBody (top 18)) F} := ⟨_, fun W L h_owed_on h_check_number =>
  (db_cons (ds_expr rfl (e_f h_check_number n11_first_lacking rfl rfl (da_cons rfl de_str (da_cons rfl (vOk_v n5_first_lacking) (da_cons rfl de_int (da_cons rfl de_int da_nil)))))) (db_cons (ds_expr rfl (e_f h_check_number n11_first_lacking rfl rfl (da_cons rfl de_str (da_cons rfl (vOk_v n6_first_lacking) (da_cons rfl de_int (da_cons rfl de_int da_nil)))))) (db_cons (s_v n9_first_lacking rfl de_int) (db_cons (ds_for rfl (di_items rfl rfl (e_f h_owed_on n0_first_lacking rfl rfl (da_cons rfl (vOk_v n2_first_lacking) (da_cons rfl (vOk_v n1_first_lacking) da_nil)))) (dg_tup rfl (dgs_cons rfl (g_v n4_first_lacking) (dgs_cons rfl (g_v n3_first_lacking) dgs_nil))) (db_cons (s_aA n9_first_lacking (vOk_v n10_first_lacking)) (db_one (ds_if (dt_cmp ops_lt (by rfl) (de_bin ops_add (vOk_v n5_first_lacking) (de_bin ops_mul (vOk_v n6_first_lacking) (vOk_v n7_first_lacking))) (vOk_v n8_first_lacking)) (db_one (ds_ret (vOk_v n7_first_lacking))) db_nil)))) (db_one (ds_ret de_none))))))⟩
def B_first_lacking : SF := P_first_lacking.1
def F_first_lacking : FSem := fnD 4 7 B_first_lacking
theorem fs_first_lacking : FnScope N_first_lacking ["drafts", "payer", "money", "income"] (defScope (top 18)) := ⟨rfl, rfl, rfl, by decide +kernel, rfl, by decide +kernel, by decide +kernel⟩
/-! _law_pick -/
def N__law_pick : List Str := ["draw", "items"]
def sc__law_pick : Scp := { defScope (top 22) with fs := fun _ => true }
theorem n0__law_pick : vOk N__law_pick sc__law_pick 1 "items" = true := by decide +kernel
theorem n1__law_pick : gOk sc__law_pick "_law_take" = true := by decide +kernel
theorem n2__law_pick : gOk sc__law_pick "len" = true := by decide +kernel
theorem n3__law_pick : vOk N__law_pick sc__law_pick 0 "draw" = true := by decide +kernel
def P__law_pick : {F : SF // ∀ W, Low fa cs W → (FnHas W "_law_take" F__law_take) → DB W N__law_pick sc__law_pick (defBody (top 22)) F} := ⟨_, fun W L h__law_take =>
  (db_one (ds_ret (de_idx rfl (vOk_v n0__law_pick) (e_f h__law_take n1__law_pick rfl rfl (da_cons rfl (vOk_v n3__law_pick) (da_cons rfl (e_bB cs_len boot_len L mf9 n2__law_pick rfl rfl (da_cons rfl (vOk_v n0__law_pick) da_nil)) da_nil))))))⟩
def B__law_pick : SF := P__law_pick.1
def F__law_pick : FSem := fnD 2 2 B__law_pick
theorem fs__law_pick : FnScope N__law_pick ["draw", "items"] (defScope (top 22)) := ⟨rfl, rfl, rfl, by decide +kernel, rfl, by decide +kernel, by decide +kernel⟩
/-! Draft.__init__ -/
def N_Draft___init__ : List Str := ["self", "money", "drawer", "payer", "due", "is_taken"]
def sc_Draft___init__ : Scp := { defScope ((inClass (top 13) 0)) with fs := fun _ => true }
theorem n0_Draft___init__ : vOk N_Draft___init__ sc_Draft___init__ 0 "self" = true := by decide +kernel
theorem n1_Draft___init__ : vOk N_Draft___init__ sc_Draft___init__ 5 "is_taken" = true := by decide +kernel
theorem n2_Draft___init__ : vOk N_Draft___init__ sc_Draft___init__ 4 "due" = true := by decide +kernel
theorem n3_Draft___init__ : vOk N_Draft___init__ sc_Draft___init__ 3 "payer" = true := by decide +kernel
theorem n4_Draft___init__ : vOk N_Draft___init__ sc_Draft___init__ 2 "drawer" = true := by decide +kernel
theorem n5_Draft___init__ : vOk N_Draft___init__ sc_Draft___init__ 1 "money" = true := by decide +kernel
theorem n6_Draft___init__ : gOk sc_Draft___init__ "isinstance" = true := by decide +kernel
theorem n7_Draft___init__ : gOk sc_Draft___init__ "bool" = true := by decide +kernel
theorem n8_Draft___init__ : gOk sc_Draft___init__ "check_number" = true := by decide +kernel
theorem n9_Draft___init__ : gOk sc_Draft___init__ "check_name" = true := by decide +kernel
def P_Draft___init__ : {F : SF // ∀ W, Low fa cs W → (∀ c f, mtB c = some f → MethHas W c "__bool__" f) → (FnHas W "check_number" F_check_number) → (FnHas W "check_name" F_check_name) → DB W N_Draft___init__ sc_Draft___init__ (defBody ((inClass (top 13) 0))) F} := ⟨_, fun W L hB h_check_number h_check_name =>
  (db_cons (ds_expr rfl (e_f h_check_number n8_Draft___init__ rfl rfl (da_cons rfl de_str (da_cons rfl (vOk_v n5_Draft___init__) (da_cons rfl de_int (da_cons rfl de_int da_nil)))))) (db_cons (ds_expr rfl (e_f h_check_name n9_Draft___init__ rfl rfl (da_cons rfl de_str (da_cons rfl (vOk_v n4_Draft___init__) da_nil)))) (db_cons (ds_expr rfl (e_f h_check_name n9_Draft___init__ rfl rfl (da_cons rfl de_str (da_cons rfl (vOk_v n3_Draft___init__) da_nil)))) (db_cons (ds_if (dt_cmp ops_eq (by rfl) (vOk_v n4_Draft___init__) (vOk_v n3_Draft___init__)) (db_one ds_never) db_nil) (db_cons (ds_expr rfl (e_f h_check_number n8_Draft___init__ rfl rfl (da_cons rfl de_str (da_cons rfl (vOk_v n2_Draft___init__) (da_cons rfl de_int (da_cons rfl de_int da_nil)))))) (db_cons (ds_if (dt_not (dt_tru hB L.pt rfl (e_isi L mf3 n6_Draft___init__ rfl (vOk_v n1_Draft___init__) (ty_b PyProof.Rows.boot_bool L mf4 n7_Draft___init__)))) (db_one ds_never) db_nil) (db_cons (s_t rfl rfl (by decide +kernel) (dg_fld L.na (vOk_v n0_Draft___init__)) (vOk_v n5_Draft___init__)) (db_cons (s_t rfl rfl (by decide +kernel) (dg_fld L.na (vOk_v n0_Draft___init__)) (vOk_v n4_Draft___init__)) (db_cons (s_t rfl rfl (by decide +kernel) (dg_fld L.na (vOk_v n0_Draft___init__)) (vOk_v n3_Draft___init__)) (db_cons (s_t rfl rfl (by decide +kernel) (dg_fld L.na (vOk_v n0_Draft___init__)) (vOk_v n2_Draft___init__)) (db_one (s_t rfl rfl (by decide +kernel) (dg_fld L.na (vOk_v n0_Draft___init__)) (vOk_v n1_Draft___init__)))))))))))))⟩
def B_Draft___init__ : SF := P_Draft___init__.1
def F_Draft___init__ : FSem := fnD 6 6 B_Draft___init__
theorem fs_Draft___init__ : FnScope N_Draft___init__ ["self", "money", "drawer", "payer", "due", "is_taken"] (defScope ((inClass (top 13) 0))) := ⟨rfl, rfl, rfl, by decide +kernel, rfl, by decide +kernel, by decide +kernel⟩
/-! law -/
def N_law : List Str := ["script", "draw", "turn", "rows", "money", "payer", "drafts", "income", "purse", "short", "day", "row", "some", "one", "days", "rate", "late", "due", "is_taken", "again"]
def sc_law : Scp := { defScope (top 23) with fs := fun _ => true }
def cs0_law : Scope := { kind := .function, names := [(PySem.Str.ofString ".0", .local), (PySem.Str.ofString "row", .local), (PySem.Str.ofString "payer", .free)], isGenerator := false, isCoroutine := false, more := [] }
def cs1_law : Scope := { kind := .function, names := [(PySem.Str.ofString ".0", .local), (PySem.Str.ofString "one", .local)], isGenerator := false, isCoroutine := false, more := [] }
def cs2_law : Scope := { kind := .function, names := [(PySem.Str.ofString ".0", .local), (PySem.Str.ofString "row", .local)], isGenerator := false, isCoroutine := false, more := [] }
def cs3_law : Scope := { kind := .function, names := [(PySem.Str.ofString ".0", .local), (PySem.Str.ofString "one", .local)], isGenerator := false, isCoroutine := false, more := [] }
def cs4_law : Scope := { kind := .function, names := [(PySem.Str.ofString ".0", .local), (PySem.Str.ofString "row", .local)], isGenerator := false, isCoroutine := false, more := [] }
def cs5_law : Scope := { kind := .function, names := [(PySem.Str.ofString ".0", .local), (PySem.Str.ofString "money", .local), (PySem.Str.ofString "payer", .local), (PySem.Str.ofString "due", .local), (PySem.Str.ofString "is_taken", .local), (PySem.Str.ofString "Draft", .globalImplicit)], isGenerator := false, isCoroutine := false, more := [] }
def cs6_law : Scope := { kind := .function, names := [(PySem.Str.ofString ".0", .local), (PySem.Str.ofString "again", .local), (PySem.Str.ofString "_law_take", .globalImplicit), (PySem.Str.ofString "_law_pick", .globalImplicit), (PySem.Str.ofString "draw", .free)], isGenerator := false, isCoroutine := false, more := [] }
theorem n0_law : gOk sc_law "range" = true := by decide +kernel
theorem n1_law : sOk N_law sc_law 2 "turn" = true := by decide +kernel
theorem n2_law : vOk N_law sc_law 6 "drafts" = true := by decide +kernel
theorem n3_law : sOk N_law sc_law 13 "one" = true := by decide +kernel
theorem n4_law : gOk sc_law "worth" = true := by decide +kernel
theorem n5_law : vOk N_law sc_law 10 "day" = true := by decide +kernel
theorem n6_law : vOk N_law sc_law 13 "one" = true := by decide +kernel
theorem n7_law : vOk N_law sc_law 15 "rate" = true := by decide +kernel
theorem n8_law : vOk N_law sc_law 16 "late" = true := by decide +kernel
theorem n9_law : sOk N_law sc_law 16 "late" = true := by decide +kernel
theorem n10_law : gOk sc_law "_law_take" = true := by decide +kernel
theorem n11_law : vOk N_law sc_law 1 "draw" = true := by decide +kernel
theorem n12_law : lOk N_law sc_law 10 "day" = true := by decide +kernel
theorem n13_law : lOk N_law sc_law 15 "rate" = true := by decide +kernel
theorem n14_law : gOk sc_law "sum" = true := by decide +kernel
theorem n15_law : gOk sc_law "list" = true := by decide +kernel
theorem n16_law : gOk sc_law "owed_on" = true := by decide +kernel
theorem n17_law : vOk N_law sc_law 5 "payer" = true := by decide +kernel
theorem n18_law : vOk N_law sc_law 3 "rows" = true := by decide +kernel
theorem n19_law : BlkOk N_law (sc_law : Scp).toScope cs0_law [(PySem.Str.ofString "row", 11)] := ⟨rfl, by decide +kernel, by decide +kernel, by decide +kernel, by decide +kernel⟩
theorem n20_law : sOk N_law (blkS cs0_law sc_law) 11 "row" = true := by decide +kernel
theorem n21_law : vOk N_law (blkS cs0_law sc_law) 11 "row" = true := by decide +kernel
theorem n22_law : vOk N_law (blkS cs0_law sc_law) 5 "payer" = true := by decide +kernel
theorem n23_law : gOk sc_law "sorted" = true := by decide +kernel
theorem n24_law : gOk sc_law "in_turn" = true := by decide +kernel
theorem n25_law : BlkOk N_law (sc_law : Scp).toScope cs1_law [(PySem.Str.ofString "one", 13)] := ⟨rfl, by decide +kernel, by decide +kernel, by decide +kernel, by decide +kernel⟩
theorem n26_law : sOk N_law (blkS cs1_law sc_law) 13 "one" = true := by decide +kernel
theorem n27_law : vOk N_law (blkS cs1_law sc_law) 13 "one" = true := by decide +kernel
theorem n28_law : BlkOk N_law (sc_law : Scp).toScope cs2_law [(PySem.Str.ofString "row", 11)] := ⟨rfl, by decide +kernel, by decide +kernel, by decide +kernel, by decide +kernel⟩
theorem n29_law : sOk N_law (blkS cs2_law sc_law) 11 "row" = true := by decide +kernel
theorem n30_law : vOk N_law (blkS cs2_law sc_law) 11 "row" = true := by decide +kernel
theorem n31_law : vOk N_law sc_law 14 "days" = true := by decide +kernel
theorem n32_law : lOk N_law sc_law 14 "days" = true := by decide +kernel
theorem n33_law : BlkOk N_law (sc_law : Scp).toScope cs3_law [(PySem.Str.ofString "one", 13)] := ⟨rfl, by decide +kernel, by decide +kernel, by decide +kernel, by decide +kernel⟩
theorem n34_law : sOk N_law (blkS cs3_law sc_law) 13 "one" = true := by decide +kernel
theorem n35_law : vOk N_law (blkS cs3_law sc_law) 13 "one" = true := by decide +kernel
theorem n36_law : gOk sc_law "first_lacking" = true := by decide +kernel
theorem n37_law : vOk N_law sc_law 7 "income" = true := by decide +kernel
theorem n38_law : vOk N_law sc_law 4 "money" = true := by decide +kernel
theorem n39_law : vOk N_law sc_law 9 "short" = true := by decide +kernel
theorem n40_law : gOk sc_law "min" = true := by decide +kernel
theorem n41_law : BlkOk N_law (sc_law : Scp).toScope cs4_law [(PySem.Str.ofString "row", 11)] := ⟨rfl, by decide +kernel, by decide +kernel, by decide +kernel, by decide +kernel⟩
theorem n42_law : sOk N_law (blkS cs4_law sc_law) 11 "row" = true := by decide +kernel
theorem n43_law : vOk N_law (blkS cs4_law sc_law) 11 "row" = true := by decide +kernel
theorem n44_law : gOk sc_law "len" = true := by decide +kernel
theorem n45_law : vOk N_law sc_law 12 "some" = true := by decide +kernel
theorem n46_law : sOk N_law sc_law 12 "some" = true := by decide +kernel
theorem n47_law : sOk N_law sc_law 10 "day" = true := by decide +kernel
theorem n48_law : sOk N_law sc_law 9 "short" = true := by decide +kernel
theorem n49_law : vOk N_law sc_law 8 "purse" = true := by decide +kernel
theorem n50_law : sOk N_law sc_law 11 "row" = true := by decide +kernel
theorem n51_law : sOk N_law sc_law 8 "purse" = true := by decide +kernel
theorem n52_law : vOk N_law sc_law 11 "row" = true := by decide +kernel
theorem n53_law : lOk N_law sc_law 8 "purse" = true := by decide +kernel
theorem n54_law : lOk N_law sc_law 9 "short" = true := by decide +kernel
theorem n55_law : sOk N_law sc_law 5 "payer" = true := by decide +kernel
theorem n56_law : sOk N_law sc_law 7 "income" = true := by decide +kernel
theorem n57_law : sOk N_law sc_law 4 "money" = true := by decide +kernel
theorem n58_law : gOk sc_law "_law_pick" = true := by decide +kernel
theorem n59_law : lOk N_law sc_law 6 "drafts" = true := by decide +kernel
theorem n60_law : BlkOk N_law (sc_law : Scp).toScope cs5_law [(PySem.Str.ofString "money", 4), (PySem.Str.ofString "payer", 5), (PySem.Str.ofString "due", 17), (PySem.Str.ofString "is_taken", 18)] := ⟨rfl, by decide +kernel, by decide +kernel, by decide +kernel, by decide +kernel⟩
theorem n61_law : sOk N_law (blkS cs5_law sc_law) 18 "is_taken" = true := by decide +kernel
theorem n62_law : sOk N_law (blkS cs5_law sc_law) 17 "due" = true := by decide +kernel
theorem n63_law : sOk N_law (blkS cs5_law sc_law) 5 "payer" = true := by decide +kernel
theorem n64_law : sOk N_law (blkS cs5_law sc_law) 4 "money" = true := by decide +kernel
theorem n65_law : gOk (blkS cs5_law sc_law) "Draft" = true := by decide +kernel
theorem n66_law : vOk N_law (blkS cs5_law sc_law) 18 "is_taken" = true := by decide +kernel
theorem n67_law : vOk N_law (blkS cs5_law sc_law) 17 "due" = true := by decide +kernel
theorem n68_law : vOk N_law (blkS cs5_law sc_law) 5 "payer" = true := by decide +kernel
theorem n69_law : vOk N_law (blkS cs5_law sc_law) 4 "money" = true := by decide +kernel
theorem n70_law : lOk N_law sc_law 3 "rows" = true := by decide +kernel
theorem n71_law : BlkOk N_law (sc_law : Scp).toScope cs6_law [(PySem.Str.ofString "again", 19)] := ⟨rfl, by decide +kernel, by decide +kernel, by decide +kernel, by decide +kernel⟩
theorem n72_law : sOk N_law (blkS cs6_law sc_law) 19 "again" = true := by decide +kernel
theorem n73_law : gOk (blkS cs6_law sc_law) "_law_take" = true := by decide +kernel
theorem n74_law : vOk N_law (blkS cs6_law sc_law) 1 "draw" = true := by decide +kernel
theorem n75_law : gOk (blkS cs6_law sc_law) "_law_pick" = true := by decide +kernel
theorem n76_law : sOk N_law sc_law 1 "draw" = true := by decide +kernel
theorem n77_law : vOk N_law sc_law 0 "script" = true := by decide +kernel
def P_law : {F : SF // ∀ W, Low fa cs W → (FnHas W "worth" F_worth) → (FnHas W "_law_take" F__law_take) → (FnHas W "owed_on" F_owed_on) → (∀ c f, mtB c = some f → MethHas W c "__bool__" f) → (FnHas W "in_turn" F_in_turn) → (FnHas W "first_lacking" F_first_lacking) → (FnHas W "_law_pick" F__law_pick) → (MkHas W "Draft" F_Draft___init__) → DB W N_law sc_law (defBody (top 23)) F} := ⟨_, fun W L h_worth h__law_take h_owed_on hB h_in_turn h_first_lacking h__law_pick k_Draft =>
  (db_cons (s_v n76_law rfl (de_live (df_lst (da_cons rfl (vOk_v n77_law) (da_cons rfl de_int da_nil))))) (db_cons (ds_for rfl (i_r1 L mf0 n0_law rfl de_int) (g_v n1_law) (db_cons (s_lcT n70_law (by decide +kernel) n71_law rfl (i_r1 L mf0 n0_law rfl (e_f h__law_take n10_law rfl rfl (da_cons rfl (vOk_v n11_law) (da_cons rfl de_int da_nil)))) (gc_v n72_law (by decide)) dts_nil (de_tup (da_cons rfl (de_bin ops_add de_int (e_f h__law_take n73_law rfl rfl (da_cons rfl (vOk_v n74_law) (da_cons rfl de_int da_nil)))) (da_cons rfl (e_f h__law_pick n75_law rfl rfl (da_cons rfl (vOk_v n74_law) (da_cons rfl (de_lst (da_cons rfl de_str (da_cons rfl de_str da_nil))) da_nil))) (da_cons rfl (e_f h__law_take n73_law rfl rfl (da_cons rfl (vOk_v n74_law) (da_cons rfl de_int da_nil))) (da_cons rfl (de_cmp ops_gt (by rfl) (e_f h__law_take n73_law rfl rfl (da_cons rfl (vOk_v n74_law) (da_cons rfl de_int da_nil))) de_int) da_nil)))))) (db_cons (s_lcT n59_law (by decide +kernel) n60_law rfl (di_seq (vOk_v n18_law)) (dgc_tup rfl (dgcs_cons rfl (gc_v n64_law (by decide)) (dgcs_cons rfl (gc_v n63_law (by decide)) (dgcs_cons rfl (gc_v n62_law (by decide)) (dgcs_cons rfl (gc_v n61_law (by decide)) dgcs_nil))))) dts_nil (de_drop (e_m k_Draft n65_law rfl rfl (da_cons rfl (vOk_v n69_law) (da_cons rfl de_str (da_cons rfl (vOk_v n68_law) (da_cons rfl (vOk_v n67_law) (da_cons rfl (vOk_v n66_law) da_nil)))))))) (db_cons (s_t rfl rfl (by decide +kernel) (dg_tup rfl (dgs_cons rfl (g_v n57_law) (dgs_cons rfl (g_v n56_law) (dgs_cons rfl (g_v n55_law) dgs_nil)))) (de_tup (da_cons rfl (e_f h__law_take n10_law rfl rfl (da_cons rfl (vOk_v n11_law) (da_cons rfl de_int da_nil))) (da_cons rfl (e_f h__law_take n10_law rfl rfl (da_cons rfl (vOk_v n11_law) (da_cons rfl de_int da_nil))) (da_cons rfl (e_f h__law_pick n58_law rfl rfl (da_cons rfl (vOk_v n11_law) (da_cons rfl (de_lst (da_cons rfl de_str (da_cons rfl de_str da_nil))) da_nil))) da_nil))))) (db_cons (s_p2 n53_law n54_law (by decide) (by decide +kernel) (da_cons rfl (vOk_v n38_law) (da_cons rfl de_none da_nil))) (db_cons (ds_for rfl (i_r1 L mf0 n0_law rfl de_int) (g_v n47_law) (db_cons (s_v n51_law rfl (de_bin ops_add (vOk_v n49_law) (de_if (dt_cmp ops_gt (by rfl) (vOk_v n5_law) de_int) (vOk_v n37_law) de_int))) (db_cons (ds_for rfl (di_seq (vOk_v n18_law)) (g_v n50_law) (db_one (s_v n51_law rfl (de_bin ops_sub (vOk_v n49_law) (de_if (t_w (w_a (dt_cmp ops_eq (by rfl) (de_idx rfl (vOk_v n52_law) de_int) (vOk_v n17_law)) (w_a (dt_cmp ops_eq (by rfl) (de_idx rfl (vOk_v n52_law) de_int) (vOk_v n5_law)) (w_a1 (dt_tru hB L.pt rfl (de_idx rfl (vOk_v n52_law) de_int)))))) (de_idx rfl (vOk_v n52_law) de_int) de_int))))) (db_one (s_v n48_law rfl (de_if (t_w (w_a (dt_cmp ops_is (by rfl) (vOk_v n39_law) de_none) (w_a1 (dt_cmp ops_lt (by rfl) (vOk_v n49_law) de_int)))) (vOk_v n5_law) (vOk_v n39_law))))))) (db_cons (ds_if (dt_cmp ops_ne (by rfl) (e_f h_first_lacking n36_law rfl rfl (da_cons rfl (vOk_v n2_law) (da_cons rfl (vOk_v n17_law) (da_cons rfl (vOk_v n38_law) (da_cons rfl (vOk_v n37_law) da_nil))))) (vOk_v n39_law)) (db_one (ds_ret de_bool)) db_nil) (db_cons (s_v n46_law rfl (de_bin ops_add (de_slice (vOk_v n2_law) (do_some (e_f h__law_take n10_law rfl rfl (da_cons rfl (vOk_v n11_law) (da_cons rfl (de_bin ops_add (e_bB cs_len boot_len L mf9 n44_law rfl rfl (da_cons rfl (vOk_v n2_law) da_nil)) de_int) da_nil)))) do_none) (de_rev (de_slice (vOk_v n2_law) do_none (do_some de_int))))) (db_cons (ds_if (t_w (w_o (dt_cmp ops_ne (by rfl) (e_f h_owed_on n16_law rfl rfl (da_cons rfl (de_rev (vOk_v n2_law)) (da_cons rfl (vOk_v n17_law) da_nil))) (e_f h_owed_on n16_law rfl rfl (da_cons rfl (vOk_v n2_law) (da_cons rfl (vOk_v n17_law) da_nil)))) (w_o (dt_cmp ops_ne (by rfl) (e_f h_first_lacking n36_law rfl rfl (da_cons rfl (de_rev (vOk_v n2_law)) (da_cons rfl (vOk_v n17_law) (da_cons rfl (vOk_v n38_law) (da_cons rfl (vOk_v n37_law) da_nil))))) (vOk_v n39_law)) (w_o1 (dt_cmp ops_ne (by rfl) (e_bB cs_len boot_len L mf9 n44_law rfl rfl (da_cons rfl (e_f h_in_turn n24_law rfl rfl (da_cons rfl (vOk_v n45_law) da_nil)) da_nil)) (e_bB cs_len boot_len L mf9 n44_law rfl rfl (da_cons rfl (vOk_v n45_law) da_nil))))))) (db_one (ds_ret de_bool)) db_nil) (db_cons (ds_if (t_w (w_o (t_w (w_a (dt_cmp ops_isnot (by rfl) (vOk_v n39_law) de_none) (w_a1 (dt_cmp ops_isnot (by rfl) (e_f h_first_lacking n36_law rfl rfl (da_cons rfl (vOk_v n2_law) (da_cons rfl (vOk_v n17_law) (da_cons rfl (e_bB cs_min PyProof.Rows.boot_min L mf1 n40_law rfl rfl (da_cons rfl de_int (da_cons rfl (de_bin ops_add (vOk_v n38_law) (e_bB cs_sum PyProof.Rows.boot_sum L mf15 n14_law rfl rfl (da_cons rfl (de_tree (de_lc n41_law rfl (di_seq (vOk_v n18_law)) (gc_v n42_law (by decide)) dts_nil (de_idx rfl (vOk_v n43_law) de_int))) da_nil))) da_nil))) (da_cons rfl (vOk_v n37_law) da_nil))))) de_none)))) (w_o1 (t_w (w_a (dt_cmp ops_is (by rfl) (vOk_v n39_law) de_none) (w_a1 (dt_cmp ops_isnot (by rfl) (e_f h_first_lacking n36_law rfl rfl (da_cons rfl (vOk_v n2_law) (da_cons rfl (vOk_v n17_law) (da_cons rfl (de_bin ops_add (vOk_v n38_law) de_int) (da_cons rfl (vOk_v n37_law) da_nil))))) de_none))))))) (db_one (ds_ret de_bool)) db_nil) (db_cons (s_lcT n32_law (by decide +kernel) n33_law rfl (di_seq (e_f h_in_turn n24_law rfl rfl (da_cons rfl (vOk_v n2_law) da_nil))) (gc_v n34_law (by decide)) dts_nil (de_attr rfl (vOk_v n35_law))) (db_cons (ds_if (t_w (w_o (dt_cmp ops_ne (by rfl) (vOk_v n31_law) (de_tree (f_bB cf_sortedA PyProof.Rows.boot_sorted L mf16 n23_law rfl rfl (da_cons rfl (vOk_v n31_law) da_nil)))) (w_o (dt_cmp ops_ne (by rfl) (de_tree (f_bB cf_sortedA PyProof.Rows.boot_sorted L mf16 n23_law rfl rfl (da_cons rfl (de_tree (de_lc n25_law rfl (di_seq (e_f h_in_turn n24_law rfl rfl (da_cons rfl (vOk_v n2_law) da_nil))) (gc_v n26_law (by decide)) dts_nil (de_attr rfl (vOk_v n27_law)))) da_nil))) (de_tree (f_bB cf_sortedA PyProof.Rows.boot_sorted L mf16 n23_law rfl rfl (da_cons rfl (de_tree (de_lc n28_law rfl (di_seq (vOk_v n18_law)) (gc_v n29_law (by decide)) dts_nil (de_idx rfl (vOk_v n30_law) de_int))) da_nil)))) (w_o1 (dt_cmp ops_ne (by rfl) (e_bB cs_sum PyProof.Rows.boot_sum L mf15 n14_law rfl rfl (da_cons rfl (de_tree (f_vals L mf12 n15_law rfl rfl (e_f h_owed_on n16_law rfl rfl (da_cons rfl (vOk_v n2_law) (da_cons rfl (vOk_v n17_law) da_nil))))) da_nil)) (e_bB cs_sum PyProof.Rows.boot_sum L mf15 n14_law rfl rfl (da_cons rfl (de_tree (de_lc n19_law rfl (di_seq (vOk_v n18_law)) (gc_v n20_law (by decide)) (dts_one (t_w (w_a (dt_cmp ops_eq (by rfl) (de_idx rfl (vOk_v n21_law) de_int) (vOk_v n22_law)) (w_a1 (dt_tru hB L.pt rfl (de_idx rfl (vOk_v n21_law) de_int)))))) (de_idx rfl (vOk_v n21_law) de_int))) da_nil))))))) (db_one (ds_ret de_bool)) db_nil) (db_one (ds_for rfl (di_seq (vOk_v n2_law)) (g_v n3_law) (db_cons (s_p2 n12_law n13_law (by decide) (by decide +kernel) (da_cons rfl (e_f h__law_take n10_law rfl rfl (da_cons rfl (vOk_v n11_law) (da_cons rfl de_int da_nil))) (da_cons rfl (e_f h__law_take n10_law rfl rfl (da_cons rfl (vOk_v n11_law) (da_cons rfl de_int da_nil))) da_nil))) (db_cons (s_v n9_law rfl (e_f h_worth n4_law rfl rfl (da_cons rfl (vOk_v n6_law) (da_cons rfl (vOk_v n5_law) (da_cons rfl (vOk_v n7_law) da_nil))))) (db_one (ds_if (t_w (w_o (dt_not (dt_chain ops_le ops_le (by with_unfolding_all rfl) de_int (vOk_v n8_law) (de_attr rfl (vOk_v n6_law)))) (w_o (dt_cmp ops_lt (by rfl) (vOk_v n8_law) (e_f h_worth n4_law rfl rfl (da_cons rfl (vOk_v n6_law) (da_cons rfl (vOk_v n5_law) (da_cons rfl (de_bin ops_add (vOk_v n7_law) de_int) da_nil))))) (w_o (dt_cmp ops_gt (by rfl) (vOk_v n8_law) (e_f h_worth n4_law rfl rfl (da_cons rfl (vOk_v n6_law) (da_cons rfl (de_bin ops_add (vOk_v n5_law) de_int) (da_cons rfl (vOk_v n7_law) da_nil))))) (w_o (dt_cmp ops_ne (by rfl) (e_f h_worth n4_law rfl rfl (da_cons rfl (vOk_v n6_law) (da_cons rfl (de_attr rfl (vOk_v n6_law)) (da_cons rfl (vOk_v n7_law) da_nil)))) (de_attr rfl (vOk_v n6_law))) (w_o1 (dt_cmp ops_ne (by rfl) (e_f h_worth n4_law rfl rfl (da_cons rfl (vOk_v n6_law) (da_cons rfl (vOk_v n5_law) (da_cons rfl de_int da_nil)))) (de_attr rfl (vOk_v n6_law))))))))) (db_one (ds_ret de_bool)) db_nil)))))))))))))))))) (db_one (ds_ret de_bool))))⟩
def B_law : SF := P_law.1
def F_law : FSem := fnD 1 20 B_law
theorem fs_law : FnScope N_law ["script"] (defScope (top 23)) := ⟨rfl, rfl, rfl, by decide +kernel, rfl, by decide +kernel, by decide +kernel⟩
end K71
namespace K71
open PySem L2 G
@[simp] theorem na18 : naT fa "Draft" "money" = true := by decide +kernel
@[simp] theorem na19 : naT fa "Draft" "drawer" = true := by decide +kernel
@[simp] theorem na20 : naT fa "Draft" "payer" = true := by decide +kernel
@[simp] theorem na21 : naT fa "Draft" "due" = true := by decide +kernel
@[simp] theorem na22 : naT fa "Draft" "is_taken" = true := by decide +kernel
@[simp] theorem pt24 : ptT fa "Draft" = true := by decide +kernel
@[simp] theorem ic25 : icT fa "Draft" = true := by decide +kernel
@[simp] theorem kt26 : kitT fa (.bt "NoneType") (.bt "bool") = some false := by decide +kernel
@[simp] theorem kt27 : kitT fa (.bt "NoneType") (.bt "int") = some false := by decide +kernel
@[simp] theorem kt28 : kitT fa (.bt "NoneType") (.bt "list") = some false := by decide +kernel
@[simp] theorem kt29 : kitT fa (.bt "NoneType") (.bt "str") = some false := by decide +kernel
@[simp] theorem kt30 : kitT fa (.bt "NoneType") (.bt "tuple") = some false := by decide +kernel
@[simp] theorem kt31 : kitT fa (.bt "NoneType") (.cl "Draft") = some false := by decide +kernel
@[simp] theorem kt32 : kitT fa (.bt "bool") (.bt "bool") = some true := by decide +kernel
@[simp] theorem kt33 : kitT fa (.bt "bool") (.bt "int") = some true := by decide +kernel
@[simp] theorem kt34 : kitT fa (.bt "bool") (.bt "list") = some false := by decide +kernel
@[simp] theorem kt35 : kitT fa (.bt "bool") (.bt "str") = some false := by decide +kernel
@[simp] theorem kt36 : kitT fa (.bt "bool") (.bt "tuple") = some false := by decide +kernel
@[simp] theorem kt37 : kitT fa (.bt "bool") (.cl "Draft") = some false := by decide +kernel
@[simp] theorem kt38 : kitT fa (.bt "int") (.bt "bool") = some false := by decide +kernel
@[simp] theorem kt39 : kitT fa (.bt "int") (.bt "int") = some true := by decide +kernel
@[simp] theorem kt40 : kitT fa (.bt "int") (.bt "list") = some false := by decide +kernel
@[simp] theorem kt41 : kitT fa (.bt "int") (.bt "str") = some false := by decide +kernel
@[simp] theorem kt42 : kitT fa (.bt "int") (.bt "tuple") = some false := by decide +kernel
@[simp] theorem kt43 : kitT fa (.bt "int") (.cl "Draft") = some false := by decide +kernel
@[simp] theorem kt44 : kitT fa (.bt "str") (.bt "bool") = some false := by decide +kernel
@[simp] theorem kt45 : kitT fa (.bt "str") (.bt "int") = some false := by decide +kernel
@[simp] theorem kt46 : kitT fa (.bt "str") (.bt "list") = some false := by decide +kernel
@[simp] theorem kt47 : kitT fa (.bt "str") (.bt "str") = some true := by decide +kernel
@[simp] theorem kt48 : kitT fa (.bt "str") (.bt "tuple") = some false := by decide +kernel
@[simp] theorem kt49 : kitT fa (.bt "str") (.cl "Draft") = some false := by decide +kernel
@[simp] theorem kt50 : kitT fa (.bt "tuple") (.bt "bool") = some false := by decide +kernel
@[simp] theorem kt51 : kitT fa (.bt "tuple") (.bt "int") = some false := by decide +kernel
@[simp] theorem kt52 : kitT fa (.bt "tuple") (.bt "list") = some false := by decide +kernel
@[simp] theorem kt53 : kitT fa (.bt "tuple") (.bt "str") = some false := by decide +kernel
@[simp] theorem kt54 : kitT fa (.bt "tuple") (.bt "tuple") = some true := by decide +kernel
@[simp] theorem kt55 : kitT fa (.bt "tuple") (.cl "Draft") = some false := by decide +kernel
@[simp] theorem kt56 : kitT fa (.bt "list") (.bt "bool") = some false := by decide +kernel
@[simp] theorem kt57 : kitT fa (.bt "list") (.bt "int") = some false := by decide +kernel
@[simp] theorem kt58 : kitT fa (.bt "list") (.bt "list") = some true := by decide +kernel
@[simp] theorem kt59 : kitT fa (.bt "list") (.bt "str") = some false := by decide +kernel
@[simp] theorem kt60 : kitT fa (.bt "list") (.bt "tuple") = some false := by decide +kernel
@[simp] theorem kt61 : kitT fa (.bt "list") (.cl "Draft") = some false := by decide +kernel
@[simp] theorem kt62 : kitT fa (.bt "dict") (.bt "bool") = some false := by decide +kernel
@[simp] theorem kt63 : kitT fa (.bt "dict") (.bt "int") = some false := by decide +kernel
@[simp] theorem kt64 : kitT fa (.bt "dict") (.bt "list") = some false := by decide +kernel
@[simp] theorem kt65 : kitT fa (.bt "dict") (.bt "str") = some false := by decide +kernel
@[simp] theorem kt66 : kitT fa (.bt "dict") (.bt "tuple") = some false := by decide +kernel
@[simp] theorem kt67 : kitT fa (.bt "dict") (.cl "Draft") = some false := by decide +kernel
@[simp] theorem kt68 : kitT fa (.cl "Draft") (.bt "bool") = some false := by decide +kernel
@[simp] theorem kt69 : kitT fa (.cl "Draft") (.bt "int") = some false := by decide +kernel
@[simp] theorem kt70 : kitT fa (.cl "Draft") (.bt "list") = some false := by decide +kernel
@[simp] theorem kt71 : kitT fa (.cl "Draft") (.bt "str") = some false := by decide +kernel
@[simp] theorem kt72 : kitT fa (.cl "Draft") (.bt "tuple") = some false := by decide +kernel
@[simp] theorem kt73 : kitT fa (.cl "Draft") (.cl "Draft") = some true := by decide +kernel
end K71
namespace K71
open PySem L2 G
def d_is_integer : He.DefD := ⟨("is_integer", none), "is_integer", "is_integer", defArgs (top 6), defBody (top 6), defScope (top 6), [], []⟩
def d_is_number : He.DefD := ⟨("is_number", none), "is_number", "is_number", defArgs (top 7), defBody (top 7), defScope (top 7), [], []⟩
def d_check_number : He.DefD := ⟨("check_number", none), "check_number", "check_number", defArgs (top 8), defBody (top 8), defScope (top 8), [], []⟩
def d_is_name : He.DefD := ⟨("is_name", none), "is_name", "is_name", defArgs (top 9), defBody (top 9), defScope (top 9), [], []⟩
def d_is_row : He.DefD := ⟨("is_row", none), "is_row", "is_row", defArgs (top 11), defBody (top 11), defScope (top 11), [], []⟩
def d_check_passed : He.DefD := ⟨("check_passed", none), "check_passed", "check_passed", defArgs (top 14), defBody (top 14), defScope (top 14), [], []⟩
def d_worth : He.DefD := ⟨("worth", none), "worth", "worth", defArgs (top 15), defBody (top 15), defScope (top 15), [], []⟩
def d__law_number : He.DefD := ⟨("_law_number", none), "_law_number", "_law_number", defArgs (top 20), defBody (top 20), defScope (top 20), [], []⟩
def d__law_take : He.DefD := ⟨("_law_take", none), "_law_take", "_law_take", defArgs (top 21), defBody (top 21), defScope (top 21), [], []⟩
def d_in_turn : He.DefD := ⟨("in_turn", none), "in_turn", "in_turn", defArgs (top 16), defBody (top 16), defScope (top 16), [], []⟩
def d_check_name : He.DefD := ⟨("check_name", none), "check_name", "check_name", defArgs (top 10), defBody (top 10), defScope (top 10), [], []⟩
def d_owed_on : He.DefD := ⟨("owed_on", none), "owed_on", "owed_on", defArgs (top 17), defBody (top 17), defScope (top 17), [], []⟩
def d_first_lacking : He.DefD := ⟨("first_lacking", none), "first_lacking", "first_lacking", defArgs (top 18), defBody (top 18), defScope (top 18), [], []⟩
def d__law_pick : He.DefD := ⟨("_law_pick", none), "_law_pick", "_law_pick", defArgs (top 22), defBody (top 22), defScope (top 22), [], []⟩
def d_Draft___init__ : He.DefD := ⟨("Draft", some "__init__"), "__init__", "Draft.__init__", defArgs (inClass (top 13) 0), defBody (inClass (top 13) 0), defScope (inClass (top 13) 0), [], []⟩
def d_law : He.DefD := ⟨("law", none), "law", "law", defArgs (top 23), defBody (top 23), defScope (top 23), [], []⟩
def fn : List He.DefD := [d_is_integer, d_is_number, d_check_number, d_is_name, d_is_row, d_check_passed, d_worth, d__law_number, d__law_take, d_in_turn, d_check_name, d_owed_on, d_first_lacking, d__law_pick, d_Draft___init__, d_law]
theorem csok : cs.all (clsT fa) = true := by decide +kernel
theorem join {K : PySem.W.Frag} (c : SaysX fa fn K) (W : Wd) (eK : W.K = K) (L : Low fa cs W) : ∃ fd, FunD W.K "law" "law" (defArgs (top 23)) (defBody (top 23)) (defScope (top 23)) [] [] (He.fAd W.K ("law", none)) fd ∧ FnOk W.P W.w W.K W.mg W.base CX0 31 (He.fAd W.K ("law", none)) fd ["script"] (spG W F_law) := by
  subst eK
  obtain ⟨fd0, D0⟩ := c.def_ 0 (d := d_is_integer) rfl
  have qh_is_integer : FnHas (W.at 1) "is_integer" F_is_integer := fnHas_of (k := 0) D0 fs_is_integer (L.glo mf74) (D0.bindsN fun _ _ _ _ _ _ us hl => match us, hl with | [_], _ => rfl) (P_is_integer.2 (W.at 0) (L.at 0) (fun c f h => by unfold mtB at h; cases h))
  obtain ⟨fd1, D1⟩ := c.def_ 1 (d := d_is_number) rfl
  have qh_is_number : FnHas (W.at 3) "is_number" F_is_number := fnHas_of (k := 2) D1 fs_is_number (L.glo mf75) (D1.bindsN fun _ _ _ _ _ _ us hl => match us, hl with | [_, _, _], _ => rfl) (P_is_number.2 (W.at 2) (L.at 2) (qh_is_integer.lift (by decide)))
  obtain ⟨fd2, D2⟩ := c.def_ 2 (d := d_check_number) rfl
  have qh_check_number : FnHas (W.at 5) "check_number" F_check_number := fnHas_of (k := 4) D2 fs_check_number (L.glo mf76) (D2.bindsN fun _ _ _ _ _ _ us hl => match us, hl with | [_, _, _, _], _ => rfl) (P_check_number.2 (W.at 4) (L.at 4) (fun c f h => by unfold mtB at h; cases h) (qh_is_number.lift (by decide)))
  obtain ⟨fd3, D3⟩ := c.def_ 3 (d := d_is_name) rfl
  have qh_is_name : FnHas (W.at 7) "is_name" F_is_name := fnHas_of (k := 6) D3 fs_is_name (L.glo mf77) (D3.bindsN fun _ _ _ _ _ _ us hl => match us, hl with | [_], _ => rfl) (P_is_name.2 (W.at 6) (L.at 6) (fun c f h => by unfold mtB at h; cases h))
  obtain ⟨fd4, D4⟩ := c.def_ 4 (d := d_is_row) rfl
  have qh_is_row : FnHas (W.at 9) "is_row" F_is_row := fnHas_of (k := 8) D4 fs_is_row (L.glo mf78) (D4.bindsN fun _ _ _ _ _ _ us hl => match us, hl with | [_], _ => rfl) (P_is_row.2 (W.at 8) (L.at 8) )
  obtain ⟨fd5, D5⟩ := c.def_ 5 (d := d_check_passed) rfl
  have qh_check_passed : FnHas (W.at 11) "check_passed" F_check_passed := fnHas_of (k := 10) D5 fs_check_passed (L.glo mf79) (D5.bindsN fun _ _ _ _ _ _ us hl => match us, hl with | [_, _, _], _ => rfl) (P_check_passed.2 (W.at 10) (L.at 10) (fun c f h => by unfold mtB at h; cases h) (qh_is_name.lift (by decide)) (qh_is_row.lift (by decide)))
  obtain ⟨fd6, D6⟩ := c.def_ 6 (d := d_worth) rfl
  have qh_worth : FnHas (W.at 13) "worth" F_worth := fnHas_of (k := 12) D6 fs_worth (L.glo mf80) (D6.bindsN fun _ _ _ _ _ _ us hl => match us, hl with | [_, _, _], _ => rfl) (P_worth.2 (W.at 12) (L.at 12) (qh_check_number.lift (by decide)) (qh_check_passed.lift (by decide)))
  obtain ⟨fd7, D7⟩ := c.def_ 7 (d := d__law_number) rfl
  have qh__law_number : FnHas (W.at 15) "_law_number" F__law_number := fnHas_of (k := 14) D7 fs__law_number (L.glo mf81) (D7.bindsN fun _ _ _ _ _ _ us hl => match us, hl with | [_, _], _ => rfl) (P__law_number.2 (W.at 14) (L.at 14) )
  obtain ⟨fd8, D8⟩ := c.def_ 8 (d := d__law_take) rfl
  have qh__law_take : FnHas (W.at 17) "_law_take" F__law_take := fnHas_of (k := 16) D8 fs__law_take (L.glo mf82) (D8.bindsN fun _ _ _ _ _ _ us hl => match us, hl with | [_, _], _ => rfl) (P__law_take.2 (W.at 16) (L.at 16) (qh__law_number.lift (by decide)))
  obtain ⟨fd9, D9⟩ := c.def_ 9 (d := d_in_turn) rfl
  have qh_in_turn : FnHas (W.at 19) "in_turn" F_in_turn := fnHas_of (k := 18) D9 fs_in_turn (L.glo mf83) (D9.bindsN fun _ _ _ _ _ _ us hl => match us, hl with | [_], _ => rfl) (P_in_turn.2 (W.at 18) (L.at 18) (fun c f h => by unfold mtB at h; cases h) (qh_is_row.lift (by decide)))
  obtain ⟨fd10, D10⟩ := c.def_ 10 (d := d_check_name) rfl
  have qh_check_name : FnHas (W.at 21) "check_name" F_check_name := fnHas_of (k := 20) D10 fs_check_name (L.glo mf84) (D10.bindsN fun _ _ _ _ _ _ us hl => match us, hl with | [_, _], _ => rfl) (P_check_name.2 (W.at 20) (L.at 20) (fun c f h => by unfold mtB at h; cases h) (qh_is_name.lift (by decide)))
  obtain ⟨fd11, D11⟩ := c.def_ 11 (d := d_owed_on) rfl
  have qh_owed_on : FnHas (W.at 23) "owed_on" F_owed_on := fnHas_of (k := 22) D11 fs_owed_on (L.glo mf85) (D11.bindsN fun _ _ _ _ _ _ us hl => match us, hl with | [_, _], _ => rfl) (P_owed_on.2 (W.at 22) (L.at 22) (qh_in_turn.lift (by decide)) (fun c f h => by unfold mtB at h; cases h) (qh_check_name.lift (by decide)))
  obtain ⟨fd12, D12⟩ := c.def_ 12 (d := d_first_lacking) rfl
  have qh_first_lacking : FnHas (W.at 25) "first_lacking" F_first_lacking := fnHas_of (k := 24) D12 fs_first_lacking (L.glo mf86) (D12.bindsN fun _ _ _ _ _ _ us hl => match us, hl with | [_, _, _, _], _ => rfl) (P_first_lacking.2 (W.at 24) (L.at 24) (qh_owed_on.lift (by decide)) (qh_check_number.lift (by decide)))
  obtain ⟨fd13, D13⟩ := c.def_ 13 (d := d__law_pick) rfl
  have qh__law_pick : FnHas (W.at 27) "_law_pick" F__law_pick := fnHas_of (k := 26) D13 fs__law_pick (L.glo mf87) (D13.bindsN fun _ _ _ _ _ _ us hl => match us, hl with | [_, _], _ => rfl) (P__law_pick.2 (W.at 26) (L.at 26) (qh__law_take.lift (by decide)))
  obtain ⟨fd14, D14⟩ := c.def_ 14 (d := d_Draft___init__) rfl
  have qk_Draft : MkHas (W.at 30) "Draft" F_Draft___init__ := mkHas_of (k := 28) (L.is_ (c := "Draft") (by decide +kernel)) (L.cls mf14).2 (L.mkr mf23) D14 (D14.bindsN fun _ _ _ _ _ _ us hl => match us, hl with | [_, _, _, _, _, _], _ => rfl) fs_Draft___init__ (P_Draft___init__.2 (W.at 28) (L.at 28) (fun c f h => by unfold mtB at h; cases h) (qh_check_number.lift (by decide)) (qh_check_name.lift (by decide)))
  obtain ⟨fd15, D15⟩ := c.def_ 15 (d := d_law) rfl
  exact ⟨fd15, D15, fnok_of (W := W) (k := 30) D15 fs_law (P_law.2 (W.at 30) (L.at 30) (qh_worth.lift (by decide)) (qh__law_take.lift (by decide)) (qh_owed_on.lift (by decide)) (fun c f h => by unfold mtB at h; cases h) (qh_in_turn.lift (by decide)) (qh_first_lacking.lift (by decide)) (qh__law_pick.lift (by decide)) (qk_Draft.lift (by decide)))⟩
end K71
namespace K71
open PySem L2 G
theorem s_number (ns : List Int) (j : Int) (hj : 0 ≤ j) (hl : ns.length ≤ 63) (M : Ms) : ∃ v : Int, F__law_number [.d (.scr ns), .d (.int j)] M = some (.d (.int v), M) := by
  -- the cell and the turn
  have hz := two_line
  obtain ⟨cell, turn, ht, hf⟩ : ∃ cell turn : Int, 0 ≤ turn ∧ ∀ env : Ev, env[0]? = some (some (.d (.scr ns))) → env[1]? = some (some (.d (.int j))) →
      (eIf (eTest (eBin gNe (eVar 0) (eLst aNil))) (eTup (aCons (eBin dIdx (eVar 0) (eBin gMod (eVar 1) (eCall gLen (aCons (eVar 0) aNil)))) (aCons (eBin gDiv (eVar 1) (eCall gLen (aCons (eVar 0) aNil))) aNil)))
        (eTup (aCons (eCst (D.int 12345)) (aCons (eCst (D.int 0)) aNil)))) env M = some (.d (.tup [.int cell, .int turn]), M) := by
    by_cases h : ns = []
    · refine ⟨12345, 0, by omega, fun env h0 h1 => ?_⟩
      subst h
      simp [h0, h1, ne_nil, hz]
    · have hp : 0 < ns.length := List.length_pos_iff.mpr h
      obtain ⟨v, hv⟩ := scr_at (ns := ns) (i := j % (ns.length : Int)) (Int.emod_nonneg _ (by omega)) (Int.emod_lt_of_pos _ (by omega))
      refine ⟨v, j / ns.length, Int.ediv_nonneg hj (by omega), fun env h0 h1 => ?_⟩
      have e : ns.isEmpty = false := by cases ns <;> simp at h ⊢
      have h3 : (ns.length : Int) < 1073741824 := by omega
      have h4 : (0 : Int) < ns.length := by omega
      simp [h0, h1, ne_nil, e, hv, hz, h3, hp]
  have hcl : 0 ≤ turn % 60 ∧ turn % 60 < 60 := ⟨Int.emod_nonneg _ (by omega), Int.emod_lt_of_pos _ (by omega)⟩
  -- the loop
  have loop : ∀ (rest : Int), ∃ (rest' : Int) (z : Option S), forD (gVar 5) (sAsg (eBin gDiv (eVar 4) (eCst (D.int 1009))) (gVar 4)) (rangeD 0 (turn % 60).toNat) [some (.d (.scr ns)), some (.d (.int j)), some (.d (.int cell)), some (.d (.int turn)), some (.d (.int rest)), none, none] M
      = some (.nx [some (.d (.scr ns)), some (.d (.int j)), some (.d (.int cell)), some (.d (.int turn)), some (.d (.int rest')), z, none] M) := fun rest => by
    obtain ⟨e2, M2, h1, r', z, h2, h3⟩ := for_range (g := gVar 5) (body := sAsg (eBin gDiv (eVar 4) (eCst (D.int 1009))) (gVar 4)) (fun i env M' => ∃ (r : Int) (z : Option S), env = [some (.d (.scr ns)), some (.d (.int j)), some (.d (.int cell)), some (.d (.int turn)), some (.d (.int r)), z, none] ∧ M = M') 0
      (env := [some (.d (.scr ns)), some (.d (.int j)), some (.d (.int cell)), some (.d (.int turn)), some (.d (.int rest)), none, none]) (M := M) (n := (turn % 60).toNat) ⟨rest, none, rfl, rfl⟩ (by
        rintro i x env M' hx hi ⟨r, z, rfl, rfl⟩
        refine ⟨[some (.d (.scr ns)), some (.d (.int j)), some (.d (.int cell)), some (.d (.int turn)), some (.d (.int r)), some (.d (.int x)), none], M, [some (.d (.scr ns)), some (.d (.int j)), some (.d (.int cell)), some (.d (.int turn)), some (.d (.int (r / 1009))), some (.d (.int x)), none], M, ?_, .inl ?_, r / 1009, _, rfl, rfl⟩
        · simp
        · simp)
    subst h2 h3
    exact ⟨r', z, h1⟩
  have hp : (0 : Int) ≤ turn % 60 := hcl.1
  have hb1 : -4611686018427387904 ≤ turn % 60 ∧ turn % 60 < 4611686018427387904 := by omega
  obtain ⟨rest', z, hloop⟩ := loop (if turn < 60 then cell - 10 ^ 18 else 0)
  simp only [F__law_number, r_fnD, B__law_number, P__law_number, r_sSeq, r_sAsg]
  rw [hf _ rfl rfl]
  have m1 : ∀ x : Int, mulOk 977 x = true := fun x => mulOk_l (by decide) (by decide)
  have m2 : ∀ x : Int, mulOk x 48271 = true := fun x => mulOk_r (by decide) (by decide)
  have m3 : ∀ x : Int, mulOk 31 x = true := fun x => mulOk_l (by decide) (by decide)
  have m4 : ∀ x : Int, mulOk (x % 2147483647) (x % 2147483647) = true := fun x => mulOk_l (by have := Int.emod_nonneg x (show (2147483647 : Int) ≠ 0 by decide); omega) (by have := Int.emod_lt_of_pos x (show (0 : Int) < 2147483647 by decide); omega)
  have m5 : ∀ x : Int, mulOk 40503 x = true := fun x => mulOk_l (by decide) (by decide)
  have m6 : ∀ x : Int, mulOk x 69621 = true := fun x => mulOk_r (by decide) (by decide)
  by_cases h60 : turn < 60
  · simp [h60] at hloop
    by_cases hr : 0 < rest'
    · simp [h60, hloop, hb1, hr]
    · simp [h60, hloop, hb1, hr, m1, m2, m3, m4, m5, m6]
  · simp [h60] at hloop
    by_cases hr : 0 < rest'
    · simp [h60, hloop, hb1, hr]
    · simp [h60, hloop, hb1, hr, m1, m2, m3, m4, m5, m6]
/-- a draw: the handle is k-th -/
theorem s_take (ns : List Int) (j many : Int) (hj : 0 ≤ j) (hl : ns.length ≤ 63) (hm : 0 < many) (M : Ms) (k : Nat) (hk : M[k]? = some (.lst [.scr ns, .int j])) :
    ∃ r : Int, 0 ≤ r ∧ r < many ∧ F__law_take [.hd k, .d (.int many)] M = some (.d (.int r), M.set k (.lst [.scr ns, .int (j + 1)])) := by
  obtain ⟨v, hv⟩ := s_number ns (j + 1) (by omega) hl (M.set k (.lst [.scr ns, .int (j + 1)]))
  refine ⟨v % many, Int.emod_nonneg _ (by omega), Int.emod_lt_of_pos _ hm, ?_⟩
  have hkl : k < M.length := (List.getElem?_eq_some_iff.mp hk).1
  have hg : (ixN 2 1) = some 1 := by decide
  have aug : sAugS gIadd (eVar 0) (eCst (D.int 1)) (eCst (D.int 1)) [some (.hd k), some (.d (.int many))] M = some (.nx [some (.hd k), some (.d (.int many))] (M.set k (.lst [.scr ns, .int (j + 1)]))) := by
    simp [hk, augGet, Cell.toD, setCell, hg]
  simp only [F__law_take, r_fnD, B__law_take, P__law_take]
  simp [-r_sAugS, aug, hk, hv, hkl, Cell.toD, hm]
  exact List.take_of_length_le (by simp)
end K71
namespace K71
open PySem L2 G
/-- a draw, by the first cell -/
theorem s_takeA (ns : List Int) (hl : ns.length ≤ 63) (many : Int) (hm : 0 < many) (M L : Ms) (h : drM ns M) : ∃ (r : Int) (M' : Ms), 0 ≤ r ∧ r < many ∧ drM ns M' ∧ M'.length = M.length ∧ (∀ i, 0 < i → M'[i]? = M[i]?) ∧ F__law_take [.hd 0, .d (.int many)] (M ++ L) = some (.d (.int r), M' ++ L) := by
  obtain ⟨j, hj, hM⟩ := h
  have hM0 : 0 < M.length := (List.getElem?_eq_some_iff.mp hM).1
  obtain ⟨r, h1, h2, h3⟩ := s_take ns j many hj hl hm (M ++ L) 0 (by rw [List.getElem?_append_left hM0]; exact hM)
  refine ⟨r, M.set 0 (.lst [.scr ns, .int (j + 1)]), h1, h2, drM.set ⟨j, hj, hM⟩ (by omega), by simp, fun i hi => List.getElem?_set_ne (by omega), ?_⟩
  rw [h3, List.set_append_left _ _ hM0]
theorem s_takeM (ns : List Int) (hl : ns.length ≤ 63) (many : Int) (hm : 0 < many) (M : Ms) (h : drM ns M) : ∃ (r : Int) (M' : Ms), 0 ≤ r ∧ r < many ∧ drM ns M' ∧ M'.length = M.length ∧ (∀ i, 0 < i → M'[i]? = M[i]?) ∧ F__law_take [.hd 0, .d (.int many)] M = some (.d (.int r), M') := by
  obtain ⟨r, M', h1, h2, h3, h4, h5, h6⟩ := s_takeA ns hl many hm M [] h
  exact ⟨r, M', h1, h2, h3, h4, h5, by simpa using h6⟩
end K71
namespace K71
open PySem L2 G
theorem s_is_integer (i : Int) (M : Ms) : F_is_integer [.d (.int i)] M = some (.d (.bl true), M) := by
  simp [F_is_integer, B_is_integer, P_is_integer, icD, tyD]
theorem s_is_number (i lo hi : Int) (M : Ms) : F_is_number [.d (.int i), .d (.int lo), .d (.int hi)] M = some (.d (.bl (decide (lo ≤ i) && decide (i ≤ hi))), M) := by
  simp only [F_is_number, r_fnD, B_is_number, P_is_number]
  simp [s_is_integer, r_chainI (a := lo) (b := i) (c := hi)]
theorem s_check_number (p : Str) (i lo hi : Int) (M : Ms) (h1 : lo ≤ i) (h2 : i ≤ hi) : F_check_number [.d (.str p), .d (.int i), .d (.int lo), .d (.int hi)] M = some (.d .non, M) := by
  simp [F_check_number, B_check_number, P_check_number, s_is_number, h1, h2]
end K71
namespace K71
open PySem L2 G
theorem s_is_name (x : Str) (M : Ms) (hl : x.length ≤ sizeLine) : F_is_name [.d (.str x)] M = some (.d (.bl (nameOk x)), M) := by
  have hz := two_line
  have hz36 : 36 ≤ sizeLine := by rw [sizeLine_eq]; omega
  simp only [F_is_name, r_fnD, B_is_name, P_is_name]
  obtain ⟨l, hx⟩ : ∃ l, x.cps.toList = l := ⟨_, rfl⟩
  have hlen : x.length = l.length := by rw [str_len, hx]
  cases l with
  | nil =>
    simp at hlen
    simp [hl, hlen, icD, tyD, nameOk, hx, -r_eBin, r_chainI (a := 1) (b := 0) (c := 8)]
  | cons c r =>
    have hn : nameOk x = (decide (r.length ≤ 7) && smallC c && (c :: r).all signC) := by unfold nameOk; rw [hx]
    simp only [List.length_cons] at hlen
    have c1 : ∀ (e : Ev) (M : Ms), e[0]? = some (some (.d (.str x))) → eChain (gI fun i j => D.bl (decide (i ≤ j))) (gI fun i j => D.bl (decide (i ≤ j))) (eCst (D.int 1)) (eCall gLen (aCons (eVar 0) aNil)) (eCst (D.int 8)) e M = some (.d (.bl (decide (r.length ≤ 7))), M) := fun e M he => by
      rw [r_chainI (g := fun i j => decide (i ≤ j)) (g' := fun i j => decide (i ≤ j)) (a := 1) (b := (r.length : Int) + 1) (c := 8) (by simp) (by simp [he, hlen, hlen ▸ hl]) (by simp)]
      congr 5
      rw [← Bool.decide_and, decide_eq_decide]
      omega
    by_cases h7 : r.length ≤ 7
    · by_cases h8 : smallC c = true
      · have hlc : ∀ (e : Ev) (M : Ms), e[0]? = some (some (.d (.str x))) → e.length = 2 → cLc (iSeq (eVar 0)) (gVar 1) tTrue (eBin gIn (eVar 1) (eBin gAdd (eCst (D.str (PySem.Str.ofString "abcdefghijklmnopqrstuvwxyz"))) (eCst (D.str (PySem.Str.ofString "0123456789"))))) [1] e M = some (.lst (((c :: r).map signC).map D.bl), M) := fun e M he hle => by
          have h0 : 0 < e.length := by omega
          rw [List.map_map]
          refine cLc_map (M1 := M) (c :: r) (fun c => .str ⟨#[c]⟩) _ (by simp [he, hx]) (fun y hy acc => ?_) (by simp; omega)
          refine ⟨(wipeE e [1]).set 1 (some (.d (.str ⟨#[y]⟩))), by simp [wipeE, hle], ?_⟩
          have l1 : (Str.ofString "abcdefghijklmnopqrstuvwxyz").length = 26 := by decide +kernel
          have l2 : (Str.ofString "0123456789").length = 10 := by decide +kernel
          simp [wipeE, hle, l1, l2, hz36, -r_gIn1]
          rw [r_gIn1, sign_mem]
        have hall := gAll_bls ((c :: r).map signC)
        generalize hR : (((c :: r).map signC).map D.bl) = R at hlc hall
        have hv : ((c :: r).map signC).all id = (c :: r).all signC := by rw [List.all_map]; rfl
        rw [hv] at hall
        have h8' : decide (c ∈ (Str.ofString "abcdefghijklmnopqrstuvwxyz").cps.toList) = true := by rw [small_mem]; exact h8
        simp only [decide_eq_true_eq] at h8'
        simp [hl, hx, icD, tyD, c1, h7, h8', hlc, Cell.toD, hall, hn, h8, -List.all_cons]
      · have h8' : decide (c ∈ (Str.ofString "abcdefghijklmnopqrstuvwxyz").cps.toList) = false := by rw [small_mem]; simpa using h8
        simp only [decide_eq_false_iff_not] at h8'
        simp [hl, hx, icD, tyD, c1, h7, h8', hn, h8]
    · simp [hl, hx, icD, tyD, c1, h7, hn]
theorem s_nm {x : Str} (h : nameOk x = true) (M : Ms) : F_is_name [.d (.str x)] M = some (.d (.bl true), M) := by
  rw [s_is_name x M, h]
  have : x.length ≤ 8 := by
    unfold nameOk at h
    rw [str_len]
    split at h
    · cases h
    · rename_i c r e
      rw [e]
      simp only [Bool.and_eq_true, decide_eq_true_eq] at h
      simp; omega
  rw [sizeLine_eq]; omega
end K71
namespace K71
open PySem L2 G
theorem s_is_row (b : Bool) (ds : List D) (M : Ms) : F_is_row [.d (sq b ds)] M = some (.d (.bl true), M) := by
  cases b <;> simp [F_is_row, B_is_row, P_is_row, icD, tyD]
theorem s_is_rowL (ds : List D) (M : Ms) : F_is_row [.d (.lst ds)] M = some (.d (.bl true), M) := s_is_row true ds M
theorem s_is_rowT (ds : List D) (M : Ms) : F_is_row [.d (.tup ds)] M = some (.d (.bl true), M) := s_is_row false ds M
theorem s_check_name (p x : Str) (M : Ms) (h : nameOk x = true) : F_check_name [.d (.str p), .d (.str x)] M = some (.d .non, M) := by
  simp [F_check_name, B_check_name, P_check_name, s_nm h]
end K71
namespace K71
open PySem L2 G
/-- the draw's cell goes on, the other cells stay -/
def dr2 (ns : List Int) (M M' : Ms) : Prop := drM ns M' ∧ M'.length = M.length ∧ ∀ i, 0 < i → M'[i]? = M[i]?
theorem dr2.refl {ns : List Int} {M : Ms} (h : drM ns M) : dr2 ns M M := ⟨h, rfl, fun _ _ => rfl⟩
theorem dr2.trans {ns : List Int} {M M1 M2 : Ms} (a : dr2 ns M M1) (b : dr2 ns M1 M2) : dr2 ns M M2 := ⟨b.1, b.2.1.trans a.2.1, fun i hi => (b.2.2 i hi).trans (a.2.2 i hi)⟩
theorem s_takeR (ns : List Int) (hl : ns.length ≤ 63) (many : Int) (hm : 0 < many) (M : Ms) (h : drM ns M) : ∃ (r : Int) (M' : Ms), 0 ≤ r ∧ r < many ∧ dr2 ns M M' ∧ F__law_take [.hd 0, .d (.int many)] M = some (.d (.int r), M') := by
  obtain ⟨r, M', h1, h2, h3, h4, h5, h6⟩ := s_takeM ns hl many hm M h
  exact ⟨r, M', h1, h2, ⟨h3, h4, h5⟩, h6⟩
theorem s_pick (ns : List Int) (hl : ns.length ≤ 63) (ds : List D) (hd : ds ≠ []) (M : Ms) (h : drM ns M) : ∃ (d : D) (M' : Ms), d ∈ ds ∧ dr2 ns M M' ∧ F__law_pick [.hd 0, .d (.lst ds)] M = some (.d d, M') := by
  have hp : 0 < ds.length := List.length_pos_iff.mpr hd
  obtain ⟨r, M', h1, h2, h3, h4⟩ := s_takeR ns hl ds.length (by omega) M h
  obtain ⟨i, hi⟩ : ∃ i : Nat, r = i := ⟨r.toNat, by omega⟩
  subst hi
  have hil : i < ds.length := by omega
  refine ⟨ds[i], M', List.getElem_mem hil, h3, ?_⟩
  refine fn_rtM (L := []) rfl h3.2.1 ?_
  simp [isR, B__law_pick, P__law_pick, h4, atI_nat hil, List.getElem?_eq_getElem hil]
theorem drM.app {ns : List Int} {M : Ms} (h : drM ns M) (L : Ms) : drM ns (M ++ L) := by
  obtain ⟨j, hj, hM⟩ := h
  exact ⟨j, hj, by rw [List.getElem?_append_left (List.getElem?_eq_some_iff.mp hM).1]; exact hM⟩
end K71
namespace K71
open PySem L2 G
structure Dr where
  mo : Int
  py : Str
  du : Int
  tk : Bool
def Dr.fs (c : Dr) : List (Str × D) := [("money", .int c.mo), ("drawer", .str "dora"), ("payer", .str c.py), ("due", .int c.du), ("is_taken", .bl c.tk)]
def Dr.d (c : Dr) : D := .obj "Draft" c.fs
def Dr.row (c : Dr) : D := .tup [.int c.mo, .str c.py, .int c.du, .bl c.tk]
section
variable (c : Dr)
@[simp] theorem c_f1 : fldD c.d "money" = some (.int c.mo) := by simp [Dr.d, Dr.fs]
@[simp] theorem c_f2 : fldD c.d "drawer" = some (.str "dora") := by simp [Dr.d, Dr.fs]
@[simp] theorem c_f3 : fldD c.d "payer" = some (.str c.py) := by simp [Dr.d, Dr.fs]
@[simp] theorem c_f4 : fldD c.d "due" = some (.int c.du) := by simp [Dr.d, Dr.fs]
@[simp] theorem c_f5 : fldD c.d "is_taken" = some (.bl c.tk) := by simp [Dr.d, Dr.fs]
@[simp] theorem c_ic : icD (icT fa) c.d = true := by simp [Dr.d, icD]
@[simp] theorem c_ty : tyD c.d = .cl "Draft" := rfl
@[simp] theorem c_r0 : dIdx c.row (.int 0) = some (.int c.mo) := rfl
@[simp] theorem c_r1 : dIdx c.row (.int 1) = some (.str c.py) := rfl
@[simp] theorem c_r2 : dIdx c.row (.int 2) = some (.int c.du) := rfl
@[simp] theorem c_r3 : dIdx c.row (.int 3) = some (.bl c.tk) := rfl
end
structure DOk (c : Dr) : Prop where
  mo : 1 ≤ c.mo ∧ c.mo ≤ 200
  py : c.py = "paul" ∨ c.py = "pia"
  du : 0 ≤ c.du ∧ c.du ≤ 24
theorem nm : nameOk "dora" = true ∧ nameOk "paul" = true ∧ nameOk "pia" = true := by decide +kernel
theorem py_ok {p : Str} (h : p = "paul" ∨ p = "pia") : nameOk p = true := by rcases h with rfl | rfl; exact nm.2.1; exact nm.2.2
theorem s_draft_init (c : Dr) (M : Ms) (o : DOk c) : F_Draft___init__ [.hd M.length, .d (.int c.mo), .d (.str "dora"), .d (.str c.py), .d (.int c.du), .d (.bl c.tk)] (M ++ [.obj "Draft" []]) = some (.d .non, M ++ [.obj "Draft" c.fs]) := by
  obtain ⟨h1, h2, h3⟩ := o
  have n1 : ∀ M : Ms, F_check_number [.d (.str "money"), .d (.int c.mo), .d (.int 1), .d (.int 9999)] M = some (.d .non, M) := fun M => s_check_number _ _ _ _ M h1.1 (by omega)
  have n2 : ∀ M : Ms, F_check_number [.d (.str "due"), .d (.int c.du), .d (.int 0), .d (.int 999)] M = some (.d .non, M) := fun M => s_check_number _ _ _ _ M h3.1 (by omega)
  have n3 : ∀ M : Ms, F_check_name [.d (.str "drawer"), .d (.str "dora")] M = some (.d .non, M) := fun M => s_check_name _ _ M nm.1
  have n4 : ∀ M : Ms, F_check_name [.d (.str "payer"), .d (.str c.py)] M = some (.d .non, M) := fun M => s_check_name _ _ M (py_ok h2)
  refine fn_nx rfl (by simp) ?_
  simp only [B_Draft___init__, P_Draft___init__, r_env0]
  simp only [Dr.fs]
  generalize c.mo = mo at *
  generalize c.du = du at *
  generalize c.tk = tk at *
  rcases h2 with hp | hp <;> rw [hp] at n4 ⊢ <;> exact isE_of (M' := _) (by simp [n1, n2, n3, n4, icD, tyD]; rfl)
theorem s_check_passed (c : Dr) (M : Ms) : F_check_passed [.d c.d, .d (.lst []), .d (.lst [])] M = some (.d .non, M) := by
  have e1 : enumD [] = [] := rfl
  have hg : gAll [.lst []] = some (.bl true) := rfl
  refine fn_nx rfl rfl ?_
  simp only [B_check_passed, P_check_passed, r_env0]
  refine seq_nx (e1 := [some (.d c.d), some (.d (.lst [])), some (.d (.lst [])), none, none]) (M1 := M) (by simp) ?_
  refine seq_nx (e1 := [some (.d c.d), some (.d (.lst [])), some (.d (.lst [])), none, none]) (M1 := M) (by simp [s_is_rowL]) ?_
  refine seq_nx (e1 := [some (.d c.d), some (.d (.lst [])), some (.d (.lst [])), none, none]) (M1 := M) (by simp [e1, forD_nil]) ?_
  have hlc : cLc (iSeq (eVar 2)) (gVar 4) tTrue (eFn F_is_name (aCons (eVar 4) aNil)) [4] [some (.d c.d), some (.d (.lst [])), some (.d (.lst [])), none, none] M = some (.lst [], M) :=
    cLc_map (M1 := M) ([] : List Int) D.int D.int (by simp) (fun y hy acc => by simp at hy) (by simp)
  refine isE_of (M' := M) (e := [some (.d c.d), some (.d (.lst [])), some (.d (.lst [])), none, none]) ?_
  simp only [List.map_cons, List.map_nil]
  simp [s_is_rowL, hlc, Cell.toD, hg]
end K71
namespace K71
open PySem L2 G
def wt (c : Dr) (day : Int) : Int := if 0 < c.du - day then c.du - day else 0
def wor (c : Dr) (day rate : Int) : Int := c.mo * (1000 - if wt c day * rate < 1000 then wt c day * rate else 1000) / 1000
theorem s_worth (c : Dr) (o : DOk c) (day rate : Int) (hd : 0 ≤ day ∧ day ≤ 999) (hr : 0 ≤ rate ∧ rate ≤ 10) (M : Ms) : F_worth [.d c.d, .d (.int day), .d (.int rate)] M = some (.d (.int (wor c day rate)), M) := by
  have n1 := s_check_number "day" day 0 999 M hd.1 hd.2
  have n2 := s_check_number "rate" rate 0 10 M hr.1 hr.2
  have n3 := s_check_passed c M
  have m1 : ∀ x, mulOk x rate = true := fun x => mulOk_r (by omega) (by omega)
  have m2 : ∀ x, mulOk c.mo x = true := fun x => mulOk_l (by have := o.mo; omega) (by have := o.mo; omega)
  unfold wor wt
  simp [F_worth, B_worth, P_worth, n1, n2, n3, m1, m2]
theorem wt_bd (c : Dr) (day : Int) : 0 ≤ wt c day := by unfold wt; split <;> omega
theorem cut_bd {x : Int} (h : 0 ≤ x) : 0 ≤ (if x < 1000 then x else 1000) ∧ (if x < 1000 then x else 1000) ≤ 1000 := by split <;> omega
theorem wor_bd (c : Dr) (o : DOk c) (day rate : Int) (hr : 0 ≤ rate) : 0 ≤ wor c day rate ∧ wor c day rate ≤ c.mo := by
  have hx := cut_bd (Int.mul_nonneg (wt_bd c day) hr)
  have hm := o.mo
  unfold wor
  generalize (if wt c day * rate < 1000 then wt c day * rate else 1000) = x at *
  refine ⟨Int.ediv_nonneg (Int.mul_nonneg (by omega) (by omega)) (by omega), Int.ediv_le_of_le_mul (by omega) ?_⟩
  exact Int.mul_le_mul_of_nonneg_left (by omega) (by omega)
theorem wor_mono {c : Dr} (o : DOk c) {d1 r1 d2 r2 : Int} (h : wt c d1 * r1 ≤ wt c d2 * r2) : wor c d2 r2 ≤ wor c d1 r1 := by
  have hm := o.mo
  unfold wor
  refine Int.ediv_le_ediv (by omega) (Int.mul_le_mul_of_nonneg_left ?_ (by omega))
  split <;> split <;> omega
theorem wor_rate {c : Dr} (o : DOk c) (day rate : Int) : wor c day (rate + 1) ≤ wor c day rate := wor_mono o (by have := wt_bd c day; rw [Int.mul_add]; omega)
theorem wor_day {c : Dr} (o : DOk c) (day rate : Int) (hr : 0 ≤ rate) : wor c day rate ≤ wor c (day + 1) rate := wor_mono o (Int.mul_le_mul_of_nonneg_right (by unfold wt; split <;> split <;> omega) hr)
theorem wor_due (c : Dr) (rate : Int) : wor c c.du rate = c.mo := by
  have h : wt c c.du = 0 := by unfold wt; rw [if_neg (by omega)]
  unfold wor
  rw [h]
  simp
theorem wor_free (c : Dr) (day : Int) : wor c day 0 = c.mo := by
  unfold wor
  simp
end K71
namespace K71
open PySem L2 G
def dues (ds : List Dr) : List Int := setI (ds.map Dr.du)
def grp (ds : List Dr) (day : Int) : List Dr := ds.filter fun r => decide (r.du = day)
def turnL (ds : List Dr) : List Dr := (dues ds).flatMap (grp ds)
theorem insU_len (x : Int) : ∀ r : List Int, (insU x r).length ≤ r.length + 1
  | [] => by simp [insU]
  | y :: r => by
    have := insU_len x r
    unfold insU
    split
    · simp
    · split
      · simp
      · simp; omega
theorem setI_len : ∀ ns : List Int, (setI ns).length ≤ ns.length
  | [] => Nat.le_refl _
  | n :: ns => by
    have h1 := setI_len ns
    have h2 := insU_len n (setI ns)
    have e : setI (n :: ns) = insU n (setI ns) := rfl
    rw [e, List.length_cons]; omega
theorem s_in_turn (ds : List Dr) (hl : ds.length ≤ 20) (M : Ms) : F_in_turn [.d (.lst (ds.map Dr.d))] M = some (.d (.lst ((turnL ds).map Dr.d)), M) := by
  have hz := big_line (n := 1000) (by decide)
  have hdl : (dues ds).length ≤ 20 := by have := setI_len (ds.map Dr.du); rw [List.length_map] at this; unfold dues; omega
  refine fn_rtH (L := [.lst ((turnL ds).map Dr.d)]) (k := M.length) (c := .lst ((turnL ds).map Dr.d)) rfl (by simp) (Nat.le_refl _) ?_
  simp only [B_in_turn, P_in_turn, r_env0]
  refine seq_nx (e1 := [some (.d (.lst (ds.map Dr.d))), none, none, none, none, none]) (M1 := M) (by simp [s_is_rowL]) ?_
  refine seq_forS ((List.range ds.length).zip ds) (fun p : Nat × Dr => .tup [.int ((p.1 : Nat) : Int), p.2.d]) (fun _ e M' => ∃ z w, e = [some (.d (.lst (ds.map Dr.d))), z, w, none, none, none] ∧ M' = M) (M1 := M) (by simp [enum_map]) ⟨_, _, rfl, rfl⟩ ?_ ?_
  · rintro i ⟨j, y⟩ e M' hx ⟨z, w, rfl, rfl⟩
    exact isS_of (e := [some (.d (.lst (ds.map Dr.d))), some (.d (.int (j : Nat))), some (.d y.d), none, none, none]) (M := M') (by simp) ⟨_, _, rfl, rfl⟩
  rintro _ _ ⟨z, w, rfl, rfl⟩
  rename_i M'
  have hc1 : cLc (iSeq (eVar 0)) (gVar 2) tTrue (eAttr "due" (eVar 2)) [2] [some (.d (.lst (ds.map Dr.d))), z, w, none, none, none] M' = some (.lst ((ds.map Dr.du).map D.int), M') := by
    rw [List.map_map]
    exact cLc_map (M1 := M') ds Dr.d _ (by simp) (fun y hy acc => ⟨[some (.d (.lst (ds.map Dr.d))), z, some (.d y.d), none, none, none], by simp [wipeE], by simp⟩) (by omega)
  have h64 : (ds.map Dr.du).length < 64 := by simp; omega
  have hin := intsD_map (ds.map Dr.du)
  refine seq_nx (e1 := [some (.d (.lst (ds.map Dr.d))), z, w, some (.d (.lst ((dues ds).map .int))), none, none]) (M1 := M') (by
    simp only [r_sAsg, r_eTree, r_cSortedSet, List.map_cons, List.map_nil]
    rw [hc1]
    unfold dues
    generalize ds.map Dr.du = ns at *
    generalize ns.map D.int = fs at *
    simp [Cell.toD, hin, h64]) ?_
  refine seq_nx (e1 := [some (.d (.lst (ds.map Dr.d))), z, w, some (.d (.lst ((dues ds).map .int))), some (.hd M'.length), none]) (M1 := M' ++ [.lst []]) (by simp) ?_
  refine seq_forS (dues ds) D.int (fun i e M2 => ∃ w v, e = [some (.d (.lst (ds.map Dr.d))), z, w, some (.d (.lst ((dues ds).map .int))), some (.hd M'.length), v] ∧ M2 = M' ++ [.lst ((((dues ds).take i).flatMap (grp ds)).map Dr.d)]) (M1 := M' ++ [.lst []]) (by simp) ⟨_, _, rfl, by simp⟩ ?_ ?_
  · rintro i day e M2 hx ⟨w, v, rfl, rfl⟩
    refine turn_v (by simp) ?_
    obtain ⟨acc, hacc⟩ : ∃ acc, acc = (((dues ds).take i).flatMap (grp ds)).map Dr.d := ⟨_, rfl⟩
    rw [← hacc]
    have hc2 : cLc (iSeq (eVar 0)) (gVar 2) (eTest (eBin gEq (eAttr "due" (eVar 2)) (eVar 5))) (eVar 2) [2] [some (.d (.lst (ds.map Dr.d))), z, w, some (.d (.lst ((dues ds).map .int))), some (.hd M'.length), some (.d (.int day))] (M' ++ [.lst acc]) = some (.lst ((grp ds day).map Dr.d), M' ++ [.lst acc]) := by
      unfold grp
      refine cLc_filter (M1 := M' ++ [.lst acc]) ds Dr.d Dr.d (fun r => decide (r.du = day)) ?_ ?_ ?_
      · simp
      · exact fun y hy a2 => ⟨[some (.d (.lst (ds.map Dr.d))), z, some (.d y.d), some (.d (.lst ((dues ds).map .int))), some (.hd M'.length), some (.d (.int day))], by simp [wipeE], by simp, fun _ => by simp⟩
      · omega
    have hgl : (grp ds day).length ≤ 20 := Nat.le_trans (List.length_filter_le ..) hl
    have hal : acc.length ≤ 400 := by
      rw [hacc, List.length_map]
      have : ∀ L : List Int, (L.flatMap (grp ds)).length ≤ L.length * 20 := fun L => by
        induction L with
        | nil => simp
        | cons d L ih =>
          have := Nat.le_trans (List.length_filter_le (fun r : Dr => decide (r.du = d)) ds) hl
          rw [List.flatMap_cons, List.length_append, List.length_cons]
          unfold grp at *
          omega
      have h2 := this ((dues ds).take i)
      have h3 : ((dues ds).take i).length ≤ 20 := by rw [List.length_take]; omega
      omega
    have hsum : acc.length + ((grp ds day).map Dr.d).length ≤ sizeLine := by rw [List.length_map]; omega
    refine isS_of (e := [some (.d (.lst (ds.map Dr.d))), z, w, some (.d (.lst ((dues ds).map .int))), some (.hd M'.length), some (.d (.int day))]) (M := M' ++ [.lst (acc ++ (grp ds day).map Dr.d)]) (by
      simp only [List.map_cons, List.map_nil]
      generalize (grp ds day).map Dr.d = g at *
      generalize (dues ds).map D.int = es at *
      generalize ds.map Dr.d = dd at *
      have e1 : ([some (.d (.lst dd)), z, w, some (.d (.lst es)), some (.hd M'.length), v] : Ev).set 5 (some (.d (.int day))) = [some (.d (.lst dd)), z, w, some (.d (.lst es)), some (.hd M'.length), some (.d (.int day))] := rfl
      rw [e1, r_sAugAny]
      simp only [List.getElem?_cons_succ, List.getElem?_cons_zero]
      rw [r_sAugL]
      simp only [List.getElem?_cons_succ, List.getElem?_cons_zero, r_eTree]
      rw [hc2]
      simp [Cell.toD, hsum]) ⟨_, _, rfl, ?_⟩
    rw [hacc, List.take_add_one, hx]
    simp
  · rintro _ _ ⟨w, v, rfl, rfl⟩
    simp [isR, turnL]
end K71
namespace K71
open PySem L2 G
theorem r_eGet2' (fo fe fx : EF) (env : Ev) (M : Ms) : eGet2 fo fe fx env M = match fo env M with
  | some (s, M1) => match view M1 s with
    | some (.dct _) => match fe env M1 with
      | some (s', M2) => match fx env M2 with
        | some (s'', M3) => match view M3 s with
          | some (.dct kds) => match view M3 s' with
            | some y => match keyD y with
              | some k => match frz M3 s'' with
                | some (d, M4) => some (.d ((valD kds k).getD d), M4)
                | none => none
              | none => none
            | none => none
          | _ => none
        | none => none
      | none => none
    | _ => none
  | none => none := id rfl
def kvI (kv : List (Int × Int)) : List (Key × D) := kv.map fun p => (.inl p.1, .int p.2)
def put (kv : List (Int × Int)) (k x : Int) : List (Int × Int) := if kv.any (fun p => decide (p.1 = k)) then kv.map (fun p => if p.1 = k then (k, x) else p) else kv ++ [(k, x)]
def addKV (kv : List (Int × Int)) (k v : Int) : List (Int × Int) := put kv k ((kv.lookup k).getD 0 + v)
theorem kvI_val (k : Int) : ∀ kv : List (Int × Int), valD (kvI kv) (.inl k) = (kv.lookup k).map D.int
  | [] => rfl
  | (a, b) :: kv => by
    have ih := kvI_val k kv
    unfold valD kvI at ih ⊢
    rw [List.map_cons, List.lookup_cons]
    by_cases e : a = k
    · subst e
      rw [List.find?_cons_of_pos (by simp)]
      simp
    · have e' : (k == a) = false := by simpa using fun h : k = a => e h.symm
      rw [List.find?_cons_of_neg (by simp [e]), ih, e']
theorem kvI_put (kv : List (Int × Int)) (k x : Int) : kvI (put kv k x) = putD (kvI kv) (.inl k) (.int x) := by
  unfold put putD kvI
  rw [List.any_map]
  have e : (kv.any ((fun kv : Key × D => decide (kv.1 = Sum.inl k)) ∘ fun p : Int × Int => (Sum.inl p.1, D.int p.2))) = kv.any fun p => decide (p.1 = k) := by
    congr 1; funext p; simp
  first
    | rw [e]
    | (simp only [Function.comp_def, Sum.inl.injEq])
  split
  · rw [List.map_map, List.map_map]
    apply List.map_congr_left
    intro p _
    by_cases h : p.1 = k <;> simp [h]
  · simp
def owedF (rows : List Dr) : List (Int × Int) := rows.foldl (fun kv r => addKV kv r.du r.mo) []
def qr (p : Str) (r : Dr) : Bool := decide (r.py = p) && r.tk
theorem put_len (kv : List (Int × Int)) (k x : Int) : (put kv k x).length ≤ kv.length + 1 := by
  unfold put; split <;> simp
theorem fold_len : ∀ (rows : List Dr) (kv : List (Int × Int)), (rows.foldl (fun kv r => addKV kv r.du r.mo) kv).length ≤ kv.length + rows.length
  | [], kv => by simp
  | r :: rows, kv => by
    have h1 := fold_len rows (addKV kv r.du r.mo)
    have h2 := put_len kv r.du ((kv.lookup r.du).getD 0 + r.mo)
    rw [List.foldl_cons, List.length_cons]
    unfold addKV at *
    omega
theorem s_owed_on (ds : List Dr) (hl : ds.length ≤ 20) (p : Str) (hp : nameOk p = true) (hok : ∀ r ∈ turnL ds, nameOk r.py = true) (htl : (turnL ds).length ≤ 20) (M : Ms) :
    F_owed_on [.d (.lst (ds.map Dr.d)), .d (.str p)] M = some (.d (.dct (kvI (owedF ((turnL ds).filter (qr p))))), M) := by
  have hz := big_line (n := 1000) (by decide)
  obtain ⟨rows, hrw⟩ : ∃ rows, rows = (turnL ds).filter (qr p) := ⟨_, rfl⟩
  have hrl : rows.length ≤ 20 := by rw [hrw]; exact Nat.le_trans (List.length_filter_le ..) htl
  have h1 := s_check_name "payer" p M hp
  have h2 := s_in_turn ds hl M
  refine fn_rtH (L := [.dct (kvI (owedF ((turnL ds).filter (qr p))))]) (k := M.length) (c := .dct (kvI (owedF ((turnL ds).filter (qr p))))) rfl (by simp) (Nat.le_refl _) ?_
  simp only [B_owed_on, P_owed_on, r_env0]
  have hpk : PyData.strOk p = true := nameOk_ok hp
  have hlc : cLc (iSeq (eFn F_in_turn (aCons (eVar 0) aNil))) (gVar 2) (tAnd_ (eTest (eBin gEq (eAttr "payer" (eVar 2)) (eVar 1))) (eTru mtB (ptT fa) (eAttr "is_taken" (eVar 2)))) (eVar 2) [2] [some (.d (.lst (ds.map Dr.d))), some (.d (.str p)), none, none, none] M = some (.lst (rows.map Dr.d), M) := by
    rw [hrw]
    refine cLc_filter (M1 := M) (turnL ds) Dr.d Dr.d (qr p) ?_ ?_ ?_
    · simp [h2]
    · intro y hy acc
      have hyk : PyData.strOk y.py = true := nameOk_ok (hok y hy)
      refine ⟨[some (.d (.lst (ds.map Dr.d))), some (.d (.str p)), some (.d y.d), none, none], by simp [wipeE], ?_, fun _ => by simp⟩
      unfold qr
      cases h : decide (y.py = p) <;> simp_all
    · omega
  rw [← hrw]
  generalize ds.map Dr.d = dd at *
  refine seq_nx (e1 := [some (.d (.lst dd)), some (.d (.str p)), none, none, none]) (M1 := M) (by simp [h1]) ?_
  refine seq_nx (e1 := [some (.d (.lst dd)), some (.d (.str p)), none, some (.d (.lst (rows.map Dr.d))), none]) (M1 := M) (by
    simp only [r_sAsg, r_eTree, List.map_cons, List.map_nil]
    rw [hlc]
    simp [Cell.toD]) ?_
  refine seq_nx (e1 := [some (.d (.lst dd)), some (.d (.str p)), none, some (.d (.lst (rows.map Dr.d))), some (.hd M.length)]) (M1 := M ++ [.dct []]) (by simp) ?_
  refine seq_forS rows Dr.d (fun i e M2 => ∃ w, e = [some (.d (.lst dd)), some (.d (.str p)), w, some (.d (.lst (rows.map Dr.d))), some (.hd M.length)] ∧ M2 = M ++ [.dct (kvI (owedF (rows.take i)))]) (M1 := M ++ [.dct []]) (by simp) ⟨_, rfl, by simp [owedF, kvI]⟩ ?_ ?_
  · rintro i r e M2 hx ⟨w, rfl, rfl⟩
    refine turn_v (by simp) ?_
    obtain ⟨kv, hkv⟩ : ∃ kv, kv = owedF (rows.take i) := ⟨_, rfl⟩
    have hkl : kv.length ≤ 20 := by
      have := fold_len (rows.take i) []
      rw [hkv]; unfold owedF
      simp only [List.length_nil, List.length_take] at this
      omega
    rw [← hkv]
    have hval := kvI_val r.du kv
    have hput := kvI_put kv r.du ((kv.lookup r.du).getD 0 + r.mo)
    have hgd : ((kv.lookup r.du).map D.int).getD (.int 0) = .int ((kv.lookup r.du).getD 0) := by cases kv.lookup r.du <;> rfl
    have hlen : (kvI kv).length < sizeLine := by unfold kvI; rw [List.length_map]; omega
    refine isS_of (e := [some (.d (.lst dd)), some (.d (.str p)), some (.d r.d), some (.d (.lst (rows.map Dr.d))), some (.hd M.length)]) (M := M ++ [.dct (kvI (addKV kv r.du r.mo))]) (by
      unfold addKV
      rw [hput]
      generalize rows.map Dr.d = rr at *
      generalize hkk : kvI kv = K at *
      have hsc : setCell (M ++ [Cell.dct K]) (S.hd M.length) (D.int r.du) (D.int ((kv.lookup r.du).getD 0 + r.mo)) = some (M ++ [Cell.dct (putD K (.inl r.du) (.int ((kv.lookup r.du).getD 0 + r.mo)))]) := by
        have hg : (M ++ [Cell.dct K])[M.length]? = some (.dct K) := by simp
        unfold setCell
        simp only [hg, keyD, hlen, if_true]
        rw [List.set_append_right _ _ (Nat.le_refl _)]
        simp
      simp [r_eGet2', keyD, hval, hgd, hsc, Cell.toD]) ⟨_, rfl, ?_⟩
    rw [hkv, List.take_add_one, hx]
    unfold owedF
    simp [List.foldl_append]
  · rintro _ _ ⟨w, rfl, rfl⟩
    simp [isR]
end K71
namespace K71
open PySem L2 G
def firstL (mo inc : Int) : List (Int × Int) → Int → Option Int
  | [], _ => none
  | (k, v) :: r, g => if mo + inc * k < g + v then some k else firstL mo inc r (g + v)
def optD : Option Int → D
  | some i => .int i
  | none => .non
@[simp] theorem r_iItemsD (fa : EF) (env : Ev) (M : Ms) : iItemsD fa env M = match dctOf fa env M with
  | some (kds, M1) => some (kds.map fun kv => .tup [kD kv.1, kv.2], M1)
  | none => none := id rfl
@[simp] theorem r_dctOf (fa : EF) (env : Ev) (M : Ms) : dctOf fa env M = match fa env M with
  | some (s, M1) => match frz M1 s with
    | some (.dct kds, M2) => some (kds, M2)
    | _ => none
  | none => none := id rfl
theorem items_kvI (kv : List (Int × Int)) : (kvI kv).map (fun kv => D.tup [kD kv.1, kv.2]) = kv.map fun p => .tup [.int p.1, .int p.2] := by
  unfold kvI; rw [List.map_map]; rfl
abbrev flB : SF := sSeq (sAugAny 4 gIadd (eVar 6)) (sIf (eTest (eBin (gI fun i j => D.bl (decide (i < j))) (eBin gAdd (eVar 2) (eBin gMul (eVar 3) (eVar 5))) (eVar 4))) (sRet (eVar 5)) sNext)
theorem s_fl (a0 a1 : Option S) (mo inc : Int) (hi : 0 ≤ inc ∧ inc ≤ 999) (M : Ms) : ∀ (kv : List (Int × Int)) (g : Int) (z5 z6 : Option S),
    (∃ d, firstL mo inc kv g = some d ∧ forD (gTupD 2 (gsCons (gVar 5) (gsCons (gVar 6) gsNil))) flB (kv.map fun p => .tup [.int p.1, .int p.2]) [a0, a1, some (.d (.int mo)), some (.d (.int inc)), some (.d (.int g)), z5, z6] M = some (.rt (.d (.int d)) M)) ∨
    (firstL mo inc kv g = none ∧ ∃ e', forD (gTupD 2 (gsCons (gVar 5) (gsCons (gVar 6) gsNil))) flB (kv.map fun p => .tup [.int p.1, .int p.2]) [a0, a1, some (.d (.int mo)), some (.d (.int inc)), some (.d (.int g)), z5, z6] M = some (.nx e' M))
  | [], g, z5, z6 => .inr ⟨rfl, _, by rw [List.map_nil, forD_nil]⟩
  | (k, v) :: r, g, z5, z6 => by
    have hm : mulOk inc k = true := mulOk_l (by omega) (by omega)
    rw [List.map_cons, forD_cons]
    by_cases h : mo + inc * k < g + v
    · refine .inl ⟨k, by unfold firstL; rw [if_pos h], ?_⟩
      have ht : turn (gTupD 2 (gsCons (gVar 5) (gsCons (gVar 6) gsNil))) flB (.tup [.int k, .int v]) [a0, a1, some (.d (.int mo)), some (.d (.int inc)), some (.d (.int g)), z5, z6] M = some (.rt (.d (.int k)) M) := by simp [hm, h]
      simp only [ht]
    · have ht : turn (gTupD 2 (gsCons (gVar 5) (gsCons (gVar 6) gsNil))) flB (.tup [.int k, .int v]) [a0, a1, some (.d (.int mo)), some (.d (.int inc)), some (.d (.int g)), z5, z6] M = some (.nx [a0, a1, some (.d (.int mo)), some (.d (.int inc)), some (.d (.int (g + v))), some (.d (.int k)), some (.d (.int v))] M) := by simp [hm, h]
      simp only [ht]
      have e : firstL mo inc ((k, v) :: r) g = firstL mo inc r (g + v) := by rw [firstL, if_neg h]
      rw [e]
      exact s_fl a0 a1 mo inc hi M r (g + v) _ _
theorem s_first_lacking (ds : List Dr) (hl : ds.length ≤ 20) (p : Str) (hp : nameOk p = true) (hok : ∀ r ∈ turnL ds, nameOk r.py = true) (htl : (turnL ds).length ≤ 20) (mo inc : Int) (hm : 0 ≤ mo ∧ mo ≤ 9999) (hi : 0 ≤ inc ∧ inc ≤ 999) (M : Ms) :
    F_first_lacking [.d (.lst (ds.map Dr.d)), .d (.str p), .d (.int mo), .d (.int inc)] M = some (.d (optD (firstL mo inc (owedF ((turnL ds).filter (qr p))) 0)), M) := by
  have n1 := s_check_number "money" mo 0 9999 M hm.1 hm.2
  have n2 := s_check_number "income" inc 0 999 M hi.1 hi.2
  have h := s_owed_on ds hl p hp hok htl M
  generalize owedF ((turnL ds).filter (qr p)) = kv at *
  generalize ds.map Dr.d = dd at *
  have hit := items_kvI kv
  refine fn_rt rfl ?_
  simp only [B_first_lacking, P_first_lacking, r_env0]
  refine seq_nx (e1 := [some (.d (.lst dd)), some (.d (.str p)), some (.d (.int mo)), some (.d (.int inc)), none, none, none]) (M1 := M) (by simp [n1]) ?_
  refine seq_nx (e1 := [some (.d (.lst dd)), some (.d (.str p)), some (.d (.int mo)), some (.d (.int inc)), none, none, none]) (M1 := M) (by simp [n2]) ?_
  refine seq_nx (e1 := [some (.d (.lst dd)), some (.d (.str p)), some (.d (.int mo)), some (.d (.int inc)), some (.d (.int 0)), none, none]) (M1 := M) (by simp) ?_
  have hI : iItemsD (eFn F_owed_on (aCons (eVar 0) (aCons (eVar 1) aNil))) [some (.d (.lst dd)), some (.d (.str p)), some (.d (.int mo)), some (.d (.int inc)), some (.d (.int 0)), none, none] M = some (kv.map fun p => .tup [.int p.1, .int p.2], M) := by
    rw [← hit]
    generalize kvI kv = K at *
    simp [h]
  rcases s_fl (some (.d (.lst dd))) (some (.d (.str p))) mo inc hi M kv 0 none none with ⟨d, e1, e2⟩ | ⟨e1, e', e2⟩
  · rw [e1]
    refine seq_rt ?_
    unfold isR
    rw [r_sFor, hI]
    exact e2
  · rw [e1]
    refine seq_nx (e1 := e') (M1 := M) (by rw [r_sFor, hI]; exact e2) ?_
    simp [isR, optD]
end K71
namespace K71
open PySem L2 G
def sm (L : List Dr) : Int := (L.map Dr.mo).sum
@[simp] theorem sm_nil : sm [] = 0 := rfl
@[simp] theorem sm_cons (r : Dr) (L : List Dr) : sm (r :: L) = r.mo + sm L := by unfold sm; rw [List.map_cons, List.sum_cons]
theorem sm_app (A B : List Dr) : sm (A ++ B) = sm A + sm B := by unfold sm; rw [List.map_append, List.sum_append]
theorem sm_perm {A B : List Dr} (h : A.Perm B) : sm A = sm B := by
  induction h with
  | nil => rfl
  | cons x _ ih => rw [sm_cons, sm_cons, ih]
  | swap x y l => rw [sm_cons, sm_cons, sm_cons, sm_cons]; omega
  | trans _ _ i1 i2 => rw [i1, i2]
theorem look_none {d : Int} : ∀ {kv : List (Int × Int)}, d ∉ kv.map (·.1) → kv.lookup d = none
  | [], _ => rfl
  | (a, b) :: kv, h => by
    simp only [List.map_cons, List.mem_cons, not_or] at h
    rw [List.lookup_cons]
    have e : (d == a) = false := by simpa using h.1
    rw [e]
    exact look_none h.2
theorem any_none {d : Int} {kv : List (Int × Int)} (h : d ∉ kv.map (·.1)) : kv.any (fun p => decide (p.1 = d)) = false :=
  List.any_eq_false.mpr fun p hp => by
    have : p.1 ≠ d := fun e => h (List.mem_map.mpr ⟨p, hp, e⟩)
    simpa using this
theorem add_new {d v : Int} {kv : List (Int × Int)} (h : d ∉ kv.map (·.1)) : addKV kv d v = kv ++ [(d, v)] := by
  unfold addKV put
  rw [look_none h, any_none h]
  simp
theorem look_last {d x : Int} : ∀ {kv : List (Int × Int)}, d ∉ kv.map (·.1) → (kv ++ [(d, x)]).lookup d = some x
  | [], _ => by simp
  | (a, b) :: kv, h => by
    simp only [List.map_cons, List.mem_cons, not_or] at h
    rw [List.cons_append, List.lookup_cons]
    have e : (d == a) = false := by simpa using h.1
    rw [e]
    exact look_last h.2
theorem add_last {d x v : Int} {kv : List (Int × Int)} (h : d ∉ kv.map (·.1)) : addKV (kv ++ [(d, x)]) d v = kv ++ [(d, x + v)] := by
  unfold addKV put
  rw [look_last h, if_pos (by simp)]
  rw [List.map_append]
  congr 1
  · conv => rhs; rw [← List.map_id kv]
    apply List.map_congr_left
    intro p hp
    have : p.1 ≠ d := fun e => h (List.mem_map.mpr ⟨p, hp, e⟩)
    simp [this]
  · simp
theorem fold_last {d : Int} {kv : List (Int × Int)} (h : d ∉ kv.map (·.1)) : ∀ (g : List Dr) (x : Int), (∀ r ∈ g, r.du = d) → g.foldl (fun kv r => addKV kv r.du r.mo) (kv ++ [(d, x)]) = kv ++ [(d, x + sm g)]
  | [], x, _ => by simp
  | r :: g, x, hg => by
    rw [List.foldl_cons, hg r (List.mem_cons_self ..), add_last h, fold_last h g _ (fun r hr => hg r (List.mem_cons_of_mem _ hr)), sm_cons]
    congr 3; omega
theorem fold_grp {d : Int} {kv : List (Int × Int)} (h : d ∉ kv.map (·.1)) (g : List Dr) (hg : ∀ r ∈ g, r.du = d) : g.foldl (fun kv r => addKV kv r.du r.mo) kv = if g.isEmpty then kv else kv ++ [(d, sm g)] := by
  cases g with
  | nil => rfl
  | cons r g =>
    rw [List.foldl_cons, hg r (List.mem_cons_self ..), add_new h, fold_last h g _ (fun r hr => hg r (List.mem_cons_of_mem _ hr)), sm_cons]
    rfl
def Gq (ds : List Dr) (p : Str) (d : Int) : List Dr := (grp ds d).filter (qr p)
theorem Gq_du {ds : List Dr} {p : Str} {d : Int} : ∀ r ∈ Gq ds p d, r.du = d := fun r hr => by
  have := (List.mem_filter.mp (List.mem_filter.mp hr).1).2
  simpa using this
def KV (ds : List Dr) (p : Str) (L : List Int) : List (Int × Int) := (L.filter fun d => !(Gq ds p d).isEmpty).map fun d => (d, sm (Gq ds p d))
theorem KV_cons (ds : List Dr) (p : Str) (d : Int) (L : List Int) : KV ds p (d :: L) = (if (Gq ds p d).isEmpty then [] else [(d, sm (Gq ds p d))]) ++ KV ds p L := by
  unfold KV
  rw [List.filter_cons]
  cases (Gq ds p d).isEmpty <;> simp
theorem fold_KV (ds : List Dr) (p : Str) : ∀ (L : List Int) (kv : List (Int × Int)), L.Nodup → (∀ d ∈ L, d ∉ kv.map (·.1)) → (L.flatMap (Gq ds p)).foldl (fun kv r => addKV kv r.du r.mo) kv = kv ++ KV ds p L
  | [], kv, _, _ => by simp [KV]
  | d :: L, kv, hn, hk => by
    obtain ⟨n1, n2⟩ := List.nodup_cons.mp hn
    rw [List.flatMap_cons, List.foldl_append, fold_grp (hk d (List.mem_cons_self ..)) _ Gq_du, KV_cons]
    cases e : (Gq ds p d).isEmpty
    · simp only [Bool.false_eq_true, if_false]
      rw [fold_KV ds p L _ n2 (fun x hx => by
        simp only [List.map_append, List.map_cons, List.map_nil, List.mem_append, List.mem_singleton, not_or]
        exact ⟨hk x (List.mem_cons_of_mem _ hx), fun e => n1 (e ▸ hx)⟩)]
      simp
    · simp only [if_true]
      rw [fold_KV ds p L _ n2 (fun x hx => hk x (List.mem_cons_of_mem _ hx))]
      simp
theorem turn_q (ds : List Dr) (p : Str) : (turnL ds).filter (qr p) = (dues ds).flatMap (Gq ds p) := by
  unfold turnL
  rw [List.filter_flatMap]
  rfl
theorem dues_rise (ds : List Dr) : (dues ds).Pairwise (· < ·) := setI_rise _
theorem owed_KV (ds : List Dr) (p : Str) : owedF ((turnL ds).filter (qr p)) = KV ds p (dues ds) := by
  rw [turn_q]
  unfold owedF
  rw [fold_KV ds p (dues ds) [] (rise_nodup (dues_rise ds)) (fun _ _ => by simp)]
  rfl
theorem dues_perm {a b : List Dr} (h : a.Perm b) : dues a = dues b := rise_uniq (setI_rise _) (setI_rise _) fun k => by
  show k ∈ setI _ ↔ k ∈ setI _
  rw [setI_mem, setI_mem]
  exact (h.map Dr.du).mem_iff
theorem KV_perm {a b : List Dr} (h : a.Perm b) (p : Str) (L : List Int) : KV a p L = KV b p L := by
  have hg : ∀ d, (Gq a p d).Perm (Gq b p d) := fun d => (h.filter _).filter _
  unfold KV
  have e1 : (fun d => !(Gq a p d).isEmpty) = fun d => !(Gq b p d).isEmpty := by
    funext d
    have := (hg d).length_eq
    cases ea : Gq a p d <;> cases eb : Gq b p d <;> simp_all
  have e2 : (fun d => (d, sm (Gq a p d))) = fun d => (d, sm (Gq b p d)) := by
    funext d; rw [sm_perm (hg d)]
  rw [e1, e2]
theorem owed_perm {a b : List Dr} (h : a.Perm b) (p : Str) : owedF ((turnL a).filter (qr p)) = owedF ((turnL b).filter (qr p)) := by
  rw [owed_KV, owed_KV, dues_perm h, KV_perm h]
theorem filter2_perm {α : Type} (p q : α → Bool) (hd : ∀ x, ¬ (p x = true ∧ q x = true)) : ∀ xs : List α, (xs.filter p ++ xs.filter q).Perm (xs.filter fun x => p x || q x)
  | [] => .nil
  | x :: xs => by
    have ih := filter2_perm p q hd xs
    cases hp : p x <;> cases hq : q x
    · simpa [List.filter_cons, hp, hq] using ih
    · simp only [List.filter_cons, hp, hq, Bool.or_true, if_true, Bool.false_eq_true, if_false]
      exact List.perm_middle.trans (ih.cons x)
    · simp only [List.filter_cons, hp, hq, Bool.or_false, if_true, Bool.false_eq_true, if_false, List.cons_append]
      exact ih.cons x
    · exact absurd ⟨hp, hq⟩ (hd x)
theorem grp_perm (ds : List Dr) : ∀ L : List Int, L.Nodup → (L.flatMap (grp ds)).Perm (ds.filter fun r => decide (r.du ∈ L))
  | [], _ => by simp
  | d :: L, hn => by
    obtain ⟨n1, n2⟩ := List.nodup_cons.mp hn
    rw [List.flatMap_cons]
    refine ((List.Perm.refl _).append (grp_perm ds L n2)).trans ?_
    refine (filter2_perm (fun r => decide (r.du = d)) (fun r => decide (r.du ∈ L)) (fun x ⟨h1, h2⟩ => by
      have h1 := of_decide_eq_true h1
      have h2 := of_decide_eq_true h2
      exact n1 (h1 ▸ h2)) ds).trans (List.Perm.of_eq ?_)
    apply List.filter_congr
    intro r _
    simp [List.mem_cons]
theorem turn_perm (ds : List Dr) : (turnL ds).Perm ds := by
  refine (grp_perm ds (dues ds) (rise_nodup (dues_rise ds))).trans (List.Perm.of_eq ?_)
  rw [List.filter_eq_self]
  intro r hr
  have : r.du ∈ dues ds := (setI_mem _ _).mpr (List.mem_map.mpr ⟨r, hr, rfl⟩)
  simpa using this
/-- what the entries of days so and so come to -/
theorem KV_sum (ds : List Dr) (p : Str) (f : Int → Bool) : ∀ L : List Int, (((KV ds p L).filter fun e => f e.1).map (·.2)).sum = sm ((L.flatMap (Gq ds p)).filter fun r => f r.du)
  | [] => by simp [KV]
  | d :: L => by
    have ih := KV_sum ds p f L
    rw [KV_cons, List.flatMap_cons, List.filter_append, List.filter_append, List.map_append, List.sum_append, ih, sm_app]
    congr 1
    have hg : (Gq ds p d).filter (fun r => f r.du) = if f d then Gq ds p d else [] := by
      have hx := Gq_du (ds := ds) (p := p) (d := d)
      cases hf : f d
      · simp only [Bool.false_eq_true, if_false, List.filter_eq_nil_iff]
        intro r hr; rw [hx r hr, hf]; simp
      · simp only [if_true, List.filter_eq_self]
        intro r hr; rw [hx r hr, hf]
    rw [hg]
    cases e : (Gq ds p d).isEmpty
    · cases hf : f d <;> simp [hf]
    · have : Gq ds p d = [] := List.isEmpty_iff.mp e
      rw [this]
      cases f d <;> simp
def Gs (ds : List Dr) (p : Str) (x : Int) : Int := sm ((ds.filter (qr p)).filter fun r => decide (r.du ≤ x))
theorem KV_le (ds : List Dr) (p : Str) (x : Int) : (((KV ds p (dues ds)).filter fun e => decide (e.1 ≤ x)).map (·.2)).sum = Gs ds p x := by
  have h := KV_sum ds p (fun d => decide (d ≤ x)) (dues ds)
  rw [h, ← turn_q]
  exact sm_perm (((turn_perm ds).filter _).filter _)
theorem KV_all (ds : List Dr) (p : Str) : ((KV ds p (dues ds)).map (·.2)).sum = sm (ds.filter (qr p)) := by
  have h := KV_sum ds p (fun _ => true) (dues ds)
  rw [List.filter_eq_self.mpr (fun _ _ => rfl), List.filter_eq_self.mpr (fun _ _ => rfl)] at h
  rw [h, ← turn_q]
  exact sm_perm ((turn_perm ds).filter _)
theorem KV_rise (ds : List Dr) (p : Str) {L : List Int} (h : L.Pairwise (· < ·)) : ((KV ds p L).map (·.1)).Pairwise (· < ·) := by
  unfold KV
  rw [List.map_map]
  have : ((fun e : Int × Int => e.1) ∘ fun d => (d, sm (Gq ds p d))) = id := rfl
  rw [this, List.map_id]
  exact h.filter _
theorem KV_mem (ds : List Dr) (p : Str) (x : Int) : x ∈ (KV ds p (dues ds)).map (·.1) ↔ ∃ r ∈ ds, qr p r = true ∧ r.du = x := by
  unfold KV
  rw [List.map_map]
  have : ((fun e : Int × Int => e.1) ∘ fun d => (d, sm (Gq ds p d))) = id := rfl
  rw [this, List.map_id, List.mem_filter]
  constructor
  · rintro ⟨h1, h2⟩
    cases e : Gq ds p x with
    | nil => rw [e] at h2; simp at h2
    | cons r g =>
      have hr : r ∈ Gq ds p x := by rw [e]; exact List.mem_cons_self ..
      exact ⟨r, (List.mem_filter.mp (List.mem_filter.mp hr).1).1, (List.mem_filter.mp hr).2, Gq_du r hr⟩
  · rintro ⟨r, h1, h2, rfl⟩
    refine ⟨(setI_mem _ _).mpr (List.mem_map.mpr ⟨r, h1, rfl⟩), ?_⟩
    have hr : r ∈ Gq ds p r.du := List.mem_filter.mpr ⟨List.mem_filter.mpr ⟨h1, by simp⟩, h2⟩
    cases e : Gq ds p r.du with
    | nil => rw [e] at hr; simp at hr
    | cons => rfl
theorem find_congr {α : Type} {p q : α → Bool} : ∀ {L : List α}, (∀ x ∈ L, p x = q x) → L.find? p = L.find? q
  | [], _ => rfl
  | x :: L, h => by
    rw [List.find?_cons, List.find?_cons, h x (List.mem_cons_self ..), find_congr fun y hy => h y (List.mem_cons_of_mem _ hy)]
theorem firstL_find (mo inc : Int) : ∀ (kv : List (Int × Int)) (g : Int), (kv.map (·.1)).Pairwise (· < ·) → firstL mo inc kv g = (kv.map (·.1)).find? fun d => decide (mo + inc * d < g + ((kv.filter fun e => decide (e.1 ≤ d)).map (·.2)).sum)
  | [], g, _ => rfl
  | (k, v) :: r, g, h => by
    obtain ⟨h1, h2⟩ := List.pairwise_cons.mp (show (k :: r.map (·.1)).Pairwise (· < ·) from h)
    have ih := firstL_find mo inc r (g + v) h2
    have e0 : ((((k, v) :: r).filter fun e => decide (e.1 ≤ k)).map (·.2)).sum = v := by
      rw [List.filter_cons_of_pos (by simp)]
      have : r.filter (fun e => decide (e.1 ≤ k)) = [] := List.filter_eq_nil_iff.mpr fun e he => by
        have := h1 e.1 (List.mem_map.mpr ⟨e, he, rfl⟩)
        simp; omega
      rw [this]; simp
    rw [List.map_cons, List.find?_cons, e0]
    unfold firstL
    by_cases hc : mo + inc * k < g + v
    · simp [hc]
    · simp only [hc, if_false, decide_false]
      rw [ih]
      apply find_congr
      intro d hd
      have := h1 d hd
      rw [List.filter_cons_of_pos (by simp; omega), List.map_cons, List.sum_cons, Int.add_assoc]
theorem find_sub {P : Int → Bool} {L1 L2 : List Int} (h1 : L1.Pairwise (· < ·)) (h2 : L2.Pairwise (· < ·)) (hs : ∀ x ∈ L2, x ∈ L1) (hm : ∀ x ∈ L1, P x = true → (∀ y ∈ L1, y < x → P y = false) → x ∈ L2) : L1.find? P = L2.find? P := by
  cases e : L1.find? P with
  | none =>
    rw [List.find?_eq_none] at e
    symm
    rw [List.find?_eq_none]
    exact fun x hx => e x (hs x hx)
  | some x =>
    obtain ⟨hp, as, bs, rfl, ha⟩ := List.find?_eq_some_iff_append.mp e
    obtain ⟨_, q2, q3⟩ := List.pairwise_append.mp h1
    obtain ⟨q4, _⟩ := List.pairwise_cons.mp q2
    have hmin : ∀ y ∈ as ++ x :: bs, y < x → P y = false := fun y hy hlt => by
      rcases List.mem_append.mp hy with h | h
      · have := ha y h; simpa using this
      · rcases List.mem_cons.mp h with rfl | h
        · omega
        · have := q4 y h; omega
    have hx : x ∈ L2 := hm x (by simp) hp hmin
    obtain ⟨s, t, rfl⟩ := List.append_of_mem hx
    symm
    refine List.find?_eq_some_iff_append.mpr ⟨hp, s, t, rfl, fun a has => ?_⟩
    obtain ⟨_, _, q⟩ := List.pairwise_append.mp h2
    have hlt := q a has x (List.mem_cons_self ..)
    rw [hmin a (hs a (by simp [has])) hlt]
    rfl
end K71
namespace K71
open PySem L2 G
/-- what is lacking on a day -/
def lackP (ds : List Dr) (p : Str) (mo inc d : Int) : Bool := decide (mo + inc * d < Gs ds p d)
def days26 : List Int := (List.range 26).map fun i => ((i : Nat) : Int)
theorem days26_rise : days26.Pairwise (· < ·) := by decide
theorem days26_mem (x : Int) : x ∈ days26 ↔ 0 ≤ x ∧ x < 26 := by
  unfold days26
  rw [List.mem_map]
  constructor
  · rintro ⟨i, hi, rfl⟩; rw [List.mem_range] at hi; omega
  · intro h; exact ⟨x.toNat, by rw [List.mem_range]; omega, by omega⟩
def shortL (ds : List Dr) (p : Str) (mo inc : Int) : Option Int := days26.find? (lackP ds p mo inc)
theorem firstL_lack (ds : List Dr) (p : Str) (mo inc : Int) : firstL mo inc (owedF ((turnL ds).filter (qr p))) 0 = ((KV ds p (dues ds)).map (·.1)).find? (lackP ds p mo inc) := by
  rw [owed_KV, firstL_find mo inc _ 0 (KV_rise ds p (dues_rise ds))]
  congr 1
  funext d
  unfold lackP
  rw [KV_le, Int.zero_add]
theorem firstL_short (ds : List Dr) (ok : ∀ r ∈ ds, DOk r) (p : Str) (mo inc : Int) (hm : 0 ≤ mo) (hi : 0 ≤ inc) : firstL mo inc (owedF ((turnL ds).filter (qr p))) 0 = shortL ds p mo inc := by
  rw [firstL_lack]
  symm
  refine find_sub days26_rise (KV_rise ds p (dues_rise ds)) (fun x hx => ?_) fun x hx hp hmin => ?_
  · obtain ⟨r, h1, _, rfl⟩ := (KV_mem ds p x).mp hx
    have := (ok r h1).du
    exact (days26_mem _).mpr (by omega)
  · rw [KV_mem]
    refine Classical.byContradiction fun hno => ?_
    have hx := (days26_mem x).mp hx
    have hG : Gs ds p x = Gs ds p (x - 1) := by
      unfold Gs
      congr 1
      apply List.filter_congr
      intro r hr
      obtain ⟨h1, h2⟩ := List.mem_filter.mp hr
      have : r.du ≠ x := fun e => hno ⟨r, h1, h2, e⟩
      rw [decide_eq_decide]; omega
    unfold lackP at hp hmin
    have hp := of_decide_eq_true hp
    by_cases h0 : x = 0
    · subst h0
      have : Gs ds p (0 - 1) = 0 := by
        unfold Gs
        rw [List.filter_eq_nil_iff.mpr fun r hr => by
          have := (ok r (List.mem_filter.mp hr).1).du
          simp; omega]
        rfl
      rw [hG, this] at hp
      simp at hp; omega
    · have h1 := of_decide_eq_false (hmin (x - 1) ((days26_mem _).mpr (by omega)) (by omega))
      rw [hG] at hp
      have : inc * x = inc * (x - 1) + inc := by rw [Int.mul_sub, Int.mul_one]; omega
      omega
theorem sm_nn {L : List Dr} (h : ∀ r ∈ L, DOk r) : 0 ≤ sm L := by
  induction L with
  | nil => exact Int.le_refl _
  | cons r L ih =>
    rw [sm_cons]
    have := (h r (List.mem_cons_self ..)).mo
    have := ih fun x hx => h x (List.mem_cons_of_mem _ hx)
    omega
theorem sm_filter {L : List Dr} (f : Dr → Bool) (h : ∀ r ∈ L, DOk r) : sm (L.filter f) ≤ sm L := by
  induction L with
  | nil => exact Int.le_refl _
  | cons r L ih =>
    have h1 := (h r (List.mem_cons_self ..)).mo
    have h2 := ih fun x hx => h x (List.mem_cons_of_mem _ hx)
    rw [List.filter_cons, sm_cons]
    split
    · rw [sm_cons]; omega
    · omega
theorem short_more {ds : List Dr} (ok : ∀ r ∈ ds, DOk r) (p : Str) {mo inc : Int} (hm : 0 ≤ mo) (hi : 0 ≤ inc) : shortL ds p (mo + sm ds) inc = none := by
  unfold shortL
  rw [List.find?_eq_none]
  intro x hx
  have hx := (days26_mem x).mp hx
  have h1 : Gs ds p x ≤ sm ds := Int.le_trans (sm_filter _ fun r hr => ok r (List.mem_filter.mp hr).1) (sm_filter _ ok)
  have h2 : 0 ≤ inc * x := Int.mul_nonneg hi hx.1
  unfold lackP
  simp; omega
theorem short_five {ds : List Dr} {p : Str} {mo inc : Int} (h : shortL ds p mo inc = none) : shortL ds p (mo + 5) inc = none := by
  unfold shortL at *
  rw [List.find?_eq_none] at *
  intro x hx
  have := h x hx
  unfold lackP at *
  simp at *
  omega
theorem turn_sorted (ds : List Dr) : ((turnL ds).map Dr.du).Pairwise (· ≤ ·) := by
  have key : ∀ L : List Int, L.Pairwise (· < ·) → ((L.flatMap (grp ds)).map Dr.du).Pairwise (· ≤ ·) := fun L => by
    induction L with
    | nil => intro _; simp
    | cons d L ih =>
      intro h
      obtain ⟨h1, h2⟩ := List.pairwise_cons.mp h
      have hg : ∀ x ∈ (grp ds d).map Dr.du, x = d := fun x hx => by
        obtain ⟨r, hr, rfl⟩ := List.mem_map.mp hx
        have := (List.mem_filter.mp hr).2
        simpa using this
      rw [List.flatMap_cons, List.map_append]
      refine List.pairwise_append.mpr ⟨?_, ih h2, fun a ha b hb => ?_⟩
      · refine List.pairwise_of_forall_mem_list fun a ha b hb => ?_
        rw [hg a ha, hg b hb]; exact Int.le_refl _
      · rw [hg a ha]
        obtain ⟨r, hr, rfl⟩ := List.mem_map.mp hb
        obtain ⟨d2, hd2, hr2⟩ := List.mem_flatMap.mp hr
        have e : r.du = d2 := by have := (List.mem_filter.mp hr2).2; simpa using this
        rw [e]
        exact Int.le_of_lt (h1 d2 hd2)
  exact key _ (dues_rise ds)
theorem days_sorted (ds : List Dr) : sortI ((turnL ds).map Dr.du) = (turnL ds).map Dr.du := (sortI_uniq (List.Perm.refl _) (turn_sorted ds)).symm
theorem money_sorted (ds : List Dr) : sortI ((turnL ds).map Dr.mo) = sortI (ds.map Dr.mo) := sortI_uniq ((sortI_perm _).trans ((turn_perm ds).map _)) (sortI_sorted _)
/-- the purse at a day's end -/
def day1 (ds : List Dr) (p : Str) (d : Int) : Int := sm ((ds.filter (qr p)).filter fun r => decide (r.du = d))
theorem Gs_next (ds : List Dr) (p : Str) (d : Int) : Gs ds p d = Gs ds p (d - 1) + day1 ds p d := by
  unfold Gs day1
  rw [← sm_app]
  refine (sm_perm ((filter2_perm (fun r : Dr => decide (r.du ≤ d - 1)) (fun r => decide (r.du = d)) (fun x ⟨h1, h2⟩ => by
    have h1 := of_decide_eq_true h1
    have h2 := of_decide_eq_true h2
    omega) (ds.filter (qr p))).trans (List.Perm.of_eq ?_))).symm
  apply List.filter_congr
  intro r _
  rw [← Bool.decide_or, decide_eq_decide]
  omega
theorem Gs_m1 (ds : List Dr) (ok : ∀ r ∈ ds, DOk r) (p : Str) : Gs ds p (0 - 1) = 0 := by
  unfold Gs
  rw [List.filter_eq_nil_iff.mpr fun r hr => by
    have := (ok r (List.mem_filter.mp hr).1).du
    simp; omega]
  rfl
end K71
namespace K71
open PySem L2 G
theorem dr2.take {ns : List Int} {M L M1 : Ms} (hM : drM ns M) (h : dr2 ns (M ++ L) M1) : dr2 ns M (M1.take M.length) := by
  obtain ⟨j, hj, hM0⟩ := hM
  have h0 : 0 < M.length := (List.getElem?_eq_some_iff.mp hM0).1
  obtain ⟨⟨j', hj', e'⟩, e2, e3⟩ := h
  refine ⟨⟨j', hj', by rw [List.getElem?_take_of_lt h0]; exact e'⟩, by rw [List.length_take, e2, List.length_append]; omega, fun i hi => ?_⟩
  by_cases hl : i < M.length
  · rw [List.getElem?_take_of_lt hl, e3 i hi, List.getElem?_append_left hl]
  · rw [List.getElem?_eq_none (by rw [List.length_take]; omega), List.getElem?_eq_none (by omega)]
end K71
namespace K71
open PySem L2 G
abbrev st1 : SF := (sAsg (eTree (cLc (iRange1 (eFn F__law_take (aCons (eVar 1) (aCons (eCst (D.int 9)) aNil)))) (gVar 19) tTrue (eTup (aCons (eBin gAdd (eCst (D.int 1)) (eFn F__law_take (aCons (eVar 1) (aCons (eCst (D.int 200)) aNil)))) (aCons (eFn F__law_pick (aCons (eVar 1) (aCons (eLst (aCons (eCst (D.str (PySem.Str.ofString "paul"))) (aCons (eCst (D.str (PySem.Str.ofString "pia"))) aNil))) aNil))) (aCons (eFn F__law_take (aCons (eVar 1) (aCons (eCst (D.int 25)) aNil))) (aCons (eBin (gI fun i j => D.bl (decide (j < i))) (eFn F__law_take (aCons (eVar 1) (aCons (eCst (D.int 4)) aNil))) (eCst (D.int 0))) aNil))))) (List.map (fun x => x.snd) [(PySem.Str.ofString "again", 19)]))) (gVar 3))
abbrev st2 : SF := (sAsg (eTree (cLc (iSeq (eVar 3)) (gTupD 4 (gsCons (gVar 4) (gsCons (gVar 5) (gsCons (gVar 17) (gsCons (gVar 18) gsNil))))) tTrue (eDrop (eMake (PySem.Str.ofString "Draft") F_Draft___init__ (aCons (eVar 4) (aCons (eCst (D.str (PySem.Str.ofString "dora"))) (aCons (eVar 5) (aCons (eVar 17) (aCons (eVar 18) aNil))))))) (List.map (fun x => x.snd) [(PySem.Str.ofString "money", 4), (PySem.Str.ofString "payer", 5), (PySem.Str.ofString "due", 17),
                      (PySem.Str.ofString "is_taken", 18)]))) (gVar 6))
abbrev st3 : SF := (sAsg (eTup (aCons (eFn F__law_take (aCons (eVar 1) (aCons (eCst (D.int 300)) aNil))) (aCons (eFn F__law_take (aCons (eVar 1) (aCons (eCst (D.int 40)) aNil))) (aCons (eFn F__law_pick (aCons (eVar 1) (aCons (eLst (aCons (eCst (D.str (PySem.Str.ofString "paul"))) (aCons (eCst (D.str (PySem.Str.ofString "pia"))) aNil))) aNil))) aNil)))) (gTupD 3 (gsCons (gVar 4) (gsCons (gVar 7) (gsCons (gVar 5) gsNil)))))
abbrev st4 : SF := (sPar 8 9 (aCons (eVar 4) (aCons (eCst D.non) aNil)))
abbrev st5 : SF := (sFor (iRange1 (eCst (D.int 26))) (gVar 10) (sSeq (sAsg (eBin gAdd (eVar 8) (eIf (eTest (eBin (gI fun i j => D.bl (decide (j < i))) (eVar 10) (eCst (D.int 0)))) (eVar 7) (eCst (D.int 0)))) (gVar 8)) (sSeq (sFor (iSeq (eVar 3)) (gVar 11) (sAsg (eBin (gI fun i j => D.int (i - j)) (eVar 8) (eIf (tAnd_ (eTest (eBin gEq (eBin dIdx (eVar 11) (eCst (D.int 1))) (eVar 5))) (tAnd_ (eTest (eBin gEq (eBin dIdx (eVar 11) (eCst (D.int 2))) (eVar 10))) (eTru mtB (ptT fa) (eBin dIdx (eVar 11) (eCst (D.int 3)))))) (eBin dIdx (eVar 11) (eCst (D.int 0))) (eCst (D.int 0)))) (gVar 8))) (sAsg (eIf (tAnd_ (eTest (eBin gIs (eVar 9) (eCst D.non))) (eTest (eBin (gI fun i j => D.bl (decide (i < j))) (eVar 8) (eCst (D.int 0))))) (eVar 10) (eVar 9)) (gVar 9)))))
abbrev st6 : SF := (sIf (eTest (eBin gNe (eFn F_first_lacking (aCons (eVar 6) (aCons (eVar 5) (aCons (eVar 4) (aCons (eVar 7) aNil))))) (eVar 9))) (sRet (eCst (D.bl false))) sNext)
abbrev st7 : SF := (sAsg (eBin gAdd (eSlice (eVar 6) (oSome (eFn F__law_take (aCons (eVar 1) (aCons (eBin gAdd (eCall gLen (aCons (eVar 6) aNil)) (eCst (D.int 1))) aNil)))) oNone) (eUn dRev (eSlice (eVar 6) oNone (oSome (eCst (D.int 3)))))) (gVar 12))
abbrev st8 : SF := (sIf (tOr_ (eTest (eBin gNe (eFn F_owed_on (aCons (eUn dRev (eVar 6)) (aCons (eVar 5) aNil))) (eFn F_owed_on (aCons (eVar 6) (aCons (eVar 5) aNil))))) (tOr_ (eTest (eBin gNe (eFn F_first_lacking (aCons (eUn dRev (eVar 6)) (aCons (eVar 5) (aCons (eVar 4) (aCons (eVar 7) aNil))))) (eVar 9))) (eTest (eBin gNe (eCall gLen (aCons (eFn F_in_turn (aCons (eVar 12) aNil)) aNil)) (eCall gLen (aCons (eVar 12) aNil)))))) (sRet (eCst (D.bl false))) sNext)
abbrev st9 : SF := (sIf (tOr_ (tAnd_ (eTest (eBin gIsNot (eVar 9) (eCst D.non))) (eTest (eBin gIsNot (eFn F_first_lacking (aCons (eVar 6) (aCons (eVar 5) (aCons (eCall gMin (aCons (eCst (D.int 9999)) (aCons (eBin gAdd (eVar 4) (eCall gSum (aCons (eTree (cLc (iSeq (eVar 3)) (gVar 11) tTrue (eBin dIdx (eVar 11) (eCst (D.int 0))) (List.map (fun x => x.snd) [(PySem.Str.ofString "row", 11)]))) aNil))) aNil))) (aCons (eVar 7) aNil))))) (eCst D.non)))) (tAnd_ (eTest (eBin gIs (eVar 9) (eCst D.non))) (eTest (eBin gIsNot (eFn F_first_lacking (aCons (eVar 6) (aCons (eVar 5) (aCons (eBin gAdd (eVar 4) (eCst (D.int 5))) (aCons (eVar 7) aNil))))) (eCst D.non))))) (sRet (eCst (D.bl false))) sNext)
abbrev st10 : SF := (sAsg (eTree (cLc (iSeq (eFn F_in_turn (aCons (eVar 6) aNil))) (gVar 13) tTrue (eAttr (PySem.Str.ofString "due") (eVar 13)) (List.map (fun x => x.snd) [(PySem.Str.ofString "one", 13)]))) (gVar 14))
abbrev st11 : SF := (sIf (tOr_ (eTest (eBin gNe (eVar 14) (eTree (cCall cSortedA (aCons (eVar 14) aNil))))) (tOr_ (eTest (eBin gNe (eTree (cCall cSortedA (aCons (eTree (cLc (iSeq (eFn F_in_turn (aCons (eVar 6) aNil))) (gVar 13) tTrue (eAttr (PySem.Str.ofString "money") (eVar 13)) (List.map (fun x => x.snd) [(PySem.Str.ofString "one", 13)]))) aNil))) (eTree (cCall cSortedA (aCons (eTree (cLc (iSeq (eVar 3)) (gVar 11) tTrue (eBin dIdx (eVar 11) (eCst (D.int 0))) (List.map (fun x => x.snd) [(PySem.Str.ofString "row", 11)]))) aNil))))) (eTest (eBin gNe (eCall gSum (aCons (eTree (cVals (eFn F_owed_on (aCons (eVar 6) (aCons (eVar 5) aNil))))) aNil)) (eCall gSum (aCons (eTree (cLc (iSeq (eVar 3)) (gVar 11) (tAnd_ (eTest (eBin gEq (eBin dIdx (eVar 11) (eCst (D.int 1))) (eVar 5))) (eTru mtB (ptT fa) (eBin dIdx (eVar 11) (eCst (D.int 3))))) (eBin dIdx (eVar 11) (eCst (D.int 0))) (List.map (fun x => x.snd) [(PySem.Str.ofString "row", 11)]))) aNil)))))) (sRet (eCst (D.bl false))) sNext)
abbrev st12 : SF := (sFor (iSeq (eVar 6)) (gVar 13) (sSeq (sPar 10 15 (aCons (eFn F__law_take (aCons (eVar 1) (aCons (eCst (D.int 30)) aNil))) (aCons (eFn F__law_take (aCons (eVar 1) (aCons (eCst (D.int 10)) aNil))) aNil))) (sSeq (sAsg (eFn F_worth (aCons (eVar 13) (aCons (eVar 10) (aCons (eVar 15) aNil)))) (gVar 16)) (sIf (tOr_ (tNot_ (eTest (eChain (gI fun i j => D.bl (decide (i ≤ j))) (gI fun i j => D.bl (decide (i ≤ j))) (eCst (D.int 0)) (eVar 16) (eAttr (PySem.Str.ofString "money") (eVar 13))))) (tOr_ (eTest (eBin (gI fun i j => D.bl (decide (i < j))) (eVar 16) (eFn F_worth (aCons (eVar 13) (aCons (eVar 10) (aCons (eBin gAdd (eVar 15) (eCst (D.int 1))) aNil)))))) (tOr_ (eTest (eBin (gI fun i j => D.bl (decide (j < i))) (eVar 16) (eFn F_worth (aCons (eVar 13) (aCons (eBin gAdd (eVar 10) (eCst (D.int 1))) (aCons (eVar 15) aNil)))))) (tOr_ (eTest (eBin gNe (eFn F_worth (aCons (eVar 13) (aCons (eAttr (PySem.Str.ofString "due") (eVar 13)) (aCons (eVar 15) aNil)))) (eAttr (PySem.Str.ofString "money") (eVar 13)))) (eTest (eBin gNe (eFn F_worth (aCons (eVar 13) (aCons (eVar 10) (aCons (eCst (D.int 0)) aNil)))) (eAttr (PySem.Str.ofString "money") (eVar 13)))))))) (sRet (eCst (D.bl false))) sNext))))
abbrev bodyL : SF := (sSeq st1 (sSeq st2 (sSeq st3 (sSeq st4 (sSeq st5 (sSeq st6 (sSeq st7 (sSeq st8 (sSeq st9 (sSeq st10 (sSeq st11 st12)))))))))))
def restL : SF := (sSeq st2 (sSeq st3 (sSeq st4 (sSeq st5 (sSeq st6 (sSeq st7 (sSeq st8 (sSeq st9 (sSeq st10 (sSeq st11 st12))))))))))
theorem law_eq : P_law.1 = sSeq (sAsg (eLive (cLst (aCons (eVar 0) (aCons (eCst (D.int 0)) aNil)))) (gVar 1)) (sSeq (sFor (iRange1 (eCst (D.int 8))) (gVar 2) bodyL) (sRet (eCst (D.bl true)))) := rfl
end K71
namespace K71
open PySem L2 G
theorem drop_makeD {c : Str} {F : FSem} {ga : AF} {env : Ev} {M M1 : Ms} {ss : List S} {gs : List (Str × D)} {d : D} (hd : d = .obj c gs) (hl : M1.length = M.length) (hga : ga env M = some (ss, M1)) (hF : F (.hd M1.length :: ss) (M1 ++ [.obj c []]) = some (.d .non, M1 ++ [.obj c gs])) : eDrop (eMake c F ga) env M = some (.d d, M1) := by
  subst hd
  rw [r_eDrop, r_eMake, hga]
  simp only [hF]
  simp [hl.symm]
abbrev E71 (ns : List Int) (tn z3 z4 z5 z6 z7 z8 z9 z10 z11 z12 z13 z14 z15 z16 z17 z18 z19 : Option S) : Ev := [some (.d (.scr ns)), some (.hd 0), tn, z3, z4, z5, z6, z7, z8, z9, z10, z11, z12, z13, z14, z15, z16, z17, z18, z19]
theorem dr2_split {ns : List Int} {M M1 : Ms} {c : Cell} (hM : drM ns M) (h : dr2 ns (M ++ [c]) M1) : ∃ M2, M1 = M2 ++ [c] ∧ dr2 ns M M2 := by
  refine ⟨M1.take M.length, ?_, dr2.take hM h⟩
  have h0 : 0 < M.length := by obtain ⟨_, _, z⟩ := hM; exact (List.getElem?_eq_some_iff.mp z).1
  have e := h.2.2 M.length h0
  rw [List.getElem?_append_right (Nat.le_refl _), Nat.sub_self] at e
  have hl : M1.length = M.length + 1 := by rw [h.2.1]; simp
  have e2 : M1.drop M.length = [c] := by
    obtain ⟨hlt, hx⟩ := List.getElem?_eq_some_iff.mp e
    rw [List.drop_eq_getElem_cons hlt, List.drop_of_length_le (by omega), hx]
  have := List.take_append_drop M.length M1
  rw [e2] at this
  exact this.symm
abbrev PYS : List D := [.str "paul", .str "pia"]
theorem s_st1 (ns : List Int) (hl : ns.length ≤ 63) (tn z3 z4 z5 z6 z7 z8 z9 z10 z11 z12 z13 z14 z15 z16 z17 z18 z19 : Option S) (M : Ms) (hM : drM ns M) :
    ∃ (ds : List Dr) (M' : Ms), ds.length ≤ 8 ∧ (∀ r ∈ ds, DOk r) ∧ drM ns M' ∧ st1 (E71 ns tn z3 z4 z5 z6 z7 z8 z9 z10 z11 z12 z13 z14 z15 z16 z17 z18 z19) M = some (.nx (E71 ns tn (some (.d (.lst (ds.map Dr.row)))) z4 z5 z6 z7 z8 z9 z10 z11 z12 z13 z14 z15 z16 z17 z18 z19) M') := by
  have hz4 : 4 ≤ sizeLine := big_line (by decide)
  have hz2 := two_line
  obtain ⟨r, M1, a1, b1, d1, f1⟩ := s_takeR ns hl 9 (by decide) M hM
  have hb1 : -4611686018427387904 ≤ r := by omega
  have hb2 : r < 4611686018427387904 := by omega
  obtain ⟨ds, M', c1, c2, c3⟩ := cLc_drawn (fi := iRange1 (eFn F__law_take (aCons (eVar 1) (aCons (eCst (D.int 9)) aNil)))) (g := gVar 19) (vs := [19]) (env := E71 ns tn z3 z4 z5 z6 z7 z8 z9 z10 z11 z12 z13 z14 z15 z16 z17 z18 z19) (M := M) (M1 := M1)
    (f := eTup (aCons (eBin gAdd (eCst (D.int 1)) (eFn F__law_take (aCons (eVar 1) (aCons (eCst (D.int 200)) aNil)))) (aCons (eFn F__law_pick (aCons (eVar 1) (aCons (eLst (aCons (eCst (D.str (PySem.Str.ofString "paul"))) (aCons (eCst (D.str (PySem.Str.ofString "pia"))) aNil))) aNil))) (aCons (eFn F__law_take (aCons (eVar 1) (aCons (eCst (D.int 25)) aNil))) (aCons (eBin (gI fun i j => D.bl (decide (j < i))) (eFn F__law_take (aCons (eVar 1) (aCons (eCst (D.int 4)) aNil))) (eCst (D.int 0))) aNil)))))
    (List.range r.toNat) (fun i => .int (0 + (i : Nat))) Dr.row (fun _ c => DOk c) (fun M' => dr2 ns M1 M') M1.length (fun M' h => h.2.1) (dr2.refl d1.1) (by simp [f1, rangeD, hb1, hb2]) (fun x hx M2 acc hR => by
      generalize (0 + (x : Nat) : Int) = xx
      obtain ⟨q1, N1, p1, p2, p3, p4⟩ := s_takeR ns hl 200 (by decide) (M2 ++ [.lst acc]) (drM.app hR.1 _)
      obtain ⟨q2, N2, p5, p6, p7⟩ := s_pick ns hl PYS (by simp) N1 p3.1
      obtain ⟨q3, N3, p8, p9, p10, p11⟩ := s_takeR ns hl 25 (by decide) N2 p6.1
      obtain ⟨q4, N4, p12, p13, p14, p15⟩ := s_takeR ns hl 4 (by decide) N3 p10.1
      obtain ⟨N5, e5, h5⟩ := dr2_split hR.1 (((p3.trans p6).trans p10).trans p14)
      obtain ⟨py, hpy, rfl⟩ : ∃ py : Str, (py = "paul" ∨ py = "pia") ∧ q2 = .str py := by
        simp only [List.mem_cons, List.not_mem_nil, or_false] at p5
        rcases p5 with rfl | rfl
        · exact ⟨_, .inl rfl, rfl⟩
        · exact ⟨_, .inr rfl, rfl⟩
      refine ⟨E71 ns tn z3 z4 z5 z6 z7 z8 z9 z10 z11 z12 z13 z14 z15 z16 z17 z18 (some (.d (.int xx))), ⟨1 + q1, py, q3, decide (0 < q4)⟩, N5, by simp [wipeE], ?_, hR.trans h5, ⟨by show 1 ≤ 1 + q1 ∧ 1 + q1 ≤ 200; omega, hpy, by show 0 ≤ q3 ∧ q3 ≤ 24; omega⟩⟩
      rw [← e5]
      simp [p4, p7, p11, p15, hz4, hz2, Dr.row]) (big_line (by rw [List.length_range]; omega))
  have hlen := c1.length
  rw [List.length_range] at hlen
  refine ⟨ds, M', by omega, fun c hc => ?_, c2.1, ?_⟩
  · obtain ⟨_, _, h⟩ := c1.mem c hc
    exact h
  · show sAsg (eTree (cLc _ _ _ _ _)) _ _ _ = _
    rw [r_sAsg, r_eTree]
    simp only [List.map_cons, List.map_nil]
    rw [c3]
    simp [Cell.toD]
theorem s_st2 (ns : List Int) (tn z4 z5 z6 z7 z8 z9 z10 z11 z12 z13 z14 z15 z16 z17 z18 z19 : Option S) (M : Ms) (ds : List Dr) (hd : ds.length ≤ 8) (ok : ∀ r ∈ ds, DOk r) :
    st2 (E71 ns tn (some (.d (.lst (ds.map Dr.row)))) z4 z5 z6 z7 z8 z9 z10 z11 z12 z13 z14 z15 z16 z17 z18 z19) M = some (.nx (E71 ns tn (some (.d (.lst (ds.map Dr.row)))) z4 z5 (some (.d (.lst (ds.map Dr.d)))) z7 z8 z9 z10 z11 z12 z13 z14 z15 z16 z17 z18 z19) M) := by
  have hlc : cLc (iSeq (eVar 3)) (gTupD 4 (gsCons (gVar 4) (gsCons (gVar 5) (gsCons (gVar 17) (gsCons (gVar 18) gsNil))))) tTrue (eDrop (eMake (PySem.Str.ofString "Draft") F_Draft___init__ (aCons (eVar 4) (aCons (eCst (D.str (PySem.Str.ofString "dora"))) (aCons (eVar 5) (aCons (eVar 17) (aCons (eVar 18) aNil))))))) [4, 5, 17, 18] (E71 ns tn (some (.d (.lst (ds.map Dr.row)))) z4 z5 z6 z7 z8 z9 z10 z11 z12 z13 z14 z15 z16 z17 z18 z19) M = some (.lst (ds.map Dr.d), M) := by
    refine cLc_map (M1 := M) ds Dr.row Dr.d ?_ ?_ (big_line (by omega))
    · simp
    · intro y hy acc
      refine ⟨E71 ns tn (some (.d (.lst (ds.map Dr.row)))) (some (.d (.int y.mo))) (some (.d (.str y.py))) z6 z7 z8 z9 z10 z11 z12 z13 z14 z15 z16 (some (.d (.int y.du))) (some (.d (.bl y.tk))) z19, by simp [wipeE, Dr.row], ?_⟩
      refine drop_makeD (M1 := M ++ [.lst acc]) (ss := [.d (.int y.mo), .d (.str "dora"), .d (.str y.py), .d (.int y.du), .d (.bl y.tk)]) rfl rfl ?_ (s_draft_init y (M ++ [.lst acc]) (ok y hy))
      simp
  generalize ds.map Dr.d = dd at *
  show sAsg (eTree (cLc _ _ _ _ _)) _ _ _ = _
  rw [r_sAsg, r_eTree]
  simp only [List.map_cons, List.map_nil]
  rw [hlc]
  simp [Cell.toD]
theorem s_st3 (ns : List Int) (hl : ns.length ≤ 63) (tn z3 z4 z5 z6 z7 z8 z9 z10 z11 z12 z13 z14 z15 z16 z17 z18 z19 : Option S) (M : Ms) (hM : drM ns M) :
    ∃ (mo inc : Int) (p : Str) (M' : Ms), (0 ≤ mo ∧ mo < 300) ∧ (0 ≤ inc ∧ inc < 40) ∧ (p = "paul" ∨ p = "pia") ∧ drM ns M' ∧ st3 (E71 ns tn z3 z4 z5 z6 z7 z8 z9 z10 z11 z12 z13 z14 z15 z16 z17 z18 z19) M = some (.nx (E71 ns tn z3 (some (.d (.int mo))) (some (.d (.str p))) z6 (some (.d (.int inc))) z8 z9 z10 z11 z12 z13 z14 z15 z16 z17 z18 z19) M') := by
  have hz3 : 3 ≤ sizeLine := big_line (by decide)
  have hz2 := two_line
  obtain ⟨q1, N1, p1, p2, p3, p4⟩ := s_takeR ns hl 300 (by decide) M hM
  obtain ⟨q2, N2, p5, p6, p7, p8⟩ := s_takeR ns hl 40 (by decide) N1 p3.1
  obtain ⟨q3, N3, p9, p10, p11⟩ := s_pick ns hl PYS (by simp) N2 p7.1
  obtain ⟨py, hpy, rfl⟩ : ∃ py : Str, (py = "paul" ∨ py = "pia") ∧ q3 = .str py := by
    simp only [List.mem_cons, List.not_mem_nil, or_false] at p9
    rcases p9 with rfl | rfl
    · exact ⟨_, .inl rfl, rfl⟩
    · exact ⟨_, .inr rfl, rfl⟩
  exact ⟨q1, q2, py, N3, ⟨p1, p2⟩, ⟨p5, p6⟩, hpy, p10.1, by simp [p4, p8, p11, hz3, hz2]⟩
end K71
namespace K71
open PySem L2 G
theorem day1_fold (ds : List Dr) (p : Str) (x : Int) {i : Nat} {r : Dr} (h : ds[i]? = some r) : day1 (ds.take (i + 1)) p x = day1 (ds.take i) p x + if qr p r && decide (r.du = x) then r.mo else 0 := by
  rw [List.take_add_one, h]
  unfold day1
  rw [List.filter_append, List.filter_append, sm_app]
  congr 1
  simp only [Option.toList_some, List.filter_cons, List.filter_nil]
  cases h1 : qr p r
  · simp
  · by_cases h2 : r.du = x <;> simp [h2]
abbrev ES (ns : List Int) (tn : Option S) (rs : List D) (mo : Int) (p : Str) (z6 : Option S) (inc : Int) (z8 z9 z10 z11 z12 z13 z14 z15 z16 z17 z18 z19 : Option S) : Ev := E71 ns tn (some (.d (.lst rs))) (some (.d (.int mo))) (some (.d (.str p))) z6 (some (.d (.int inc))) z8 z9 z10 z11 z12 z13 z14 z15 z16 z17 z18 z19
abbrev innB : SF := sAsg (eBin (gI fun i j => D.int (i - j)) (eVar 8) (eIf (tAnd_ (eTest (eBin gEq (eBin dIdx (eVar 11) (eCst (D.int 1))) (eVar 5))) (tAnd_ (eTest (eBin gEq (eBin dIdx (eVar 11) (eCst (D.int 2))) (eVar 10))) (eTru mtB (ptT fa) (eBin dIdx (eVar 11) (eCst (D.int 3)))))) (eBin dIdx (eVar 11) (eCst (D.int 0))) (eCst (D.int 0)))) (gVar 8)
theorem s_inn (ns : List Int) (tn : Option S) (ds : List Dr) (ok : ∀ r ∈ ds, DOk r) (mo : Int) (p : Str) (hp : p = "paul" ∨ p = "pia") (z6 : Option S) (inc : Int) (pu x : Int) (z9 z11 z12 z13 z14 z15 z16 z17 z18 z19 : Option S) (M : Ms) :
    isS (fun e M' => ∃ z11, e = ES ns tn (ds.map Dr.row) mo p z6 inc (some (.d (.int (pu - day1 ds p x)))) z9 (some (.d (.int x))) z11 z12 z13 z14 z15 z16 z17 z18 z19 ∧ M' = M)
      (sFor (iSeq (eVar 3)) (gVar 11) innB (ES ns tn (ds.map Dr.row) mo p z6 inc (some (.d (.int pu))) z9 (some (.d (.int x))) z11 z12 z13 z14 z15 z16 z17 z18 z19) M) := by
  have hpk : PyData.strOk p = true := nameOk_ok (py_ok hp)
  refine isS_imp (for_S ds Dr.row (fun i e M' => ∃ z11, e = ES ns tn (ds.map Dr.row) mo p z6 inc (some (.d (.int (pu - day1 (ds.take i) p x)))) z9 (some (.d (.int x))) z11 z12 z13 z14 z15 z16 z17 z18 z19 ∧ M' = M) (M1 := M) (by simp) ⟨z11, by simp [day1], rfl⟩ ?_) ?_
  · rintro i r e M' hx ⟨z11, rfl, rfl⟩
    have hrk : PyData.strOk r.py = true := nameOk_ok (py_ok (ok r (List.mem_of_getElem? hx)).py)
    refine turn_v (by simp) ?_
    rw [day1_fold ds p x hx]
    generalize day1 (ds.take i) p x = y
    generalize ds.map Dr.row = rs
    refine isS_of (e := ES ns tn rs mo p z6 inc (some (.d (.int (pu - (y + if qr p r && decide (r.du = x) then r.mo else 0))))) z9 (some (.d (.int x))) (some (.d r.row)) z12 z13 z14 z15 z16 z17 z18 z19) (M := M') ?_ ⟨_, rfl, rfl⟩
    unfold qr
    by_cases h1 : r.py = p
    · have e1 : decide (r.py = p) = true := by simpa using h1
      by_cases h2 : r.du = x
      · cases h3 : r.tk <;> simp_all [Int.sub_sub]
      · simp_all [Int.sub_sub]
    · simp_all [Int.sub_sub]
  · rintro e M' ⟨z11, rfl, rfl⟩
    exact ⟨z11, by rw [List.take_length], rfl⟩
def pur (ds : List Dr) (p : Str) (mo inc : Int) (i : Int) : Int := mo + inc * (if i = 0 then 0 else i - 1) - Gs ds p (i - 1)
theorem days26_eq : rangeD 0 26 = days26.map D.int := by
  unfold days26
  rw [rangeD_map, List.map_map]
  apply List.map_congr_left
  intro i _
  simp
theorem days26_get {i : Nat} {x : Int} (h : days26[i]? = some x) : x = (i : Nat) ∧ 0 ≤ x ∧ x ≤ 25 := by
  unfold days26 at h
  rw [List.getElem?_map] at h
  by_cases hi : i < 26
  · rw [List.getElem?_range hi] at h
    simp at h
    omega
  · rw [List.getElem?_eq_none (by rw [List.length_range]; omega)] at h
    cases h
def orS {α : Type} (o : Option α) (b : Bool) (x : α) : Option α := match o with
  | some y => some y
  | none => if b then some x else none
theorem find_next {α : Type} {P : α → Bool} {L : List α} {i : Nat} {x : α} (h : L[i]? = some x) : (L.take (i + 1)).find? P = orS ((L.take i).find? P) (P x) x := by
  rw [List.take_add_one, h, List.find?_append]
  unfold orS
  cases (L.take i).find? P
  · simp only [Option.toList_some, List.find?_cons, List.find?_nil]
    cases P x <;> rfl
  · rfl
theorem s_st5 (ns : List Int) (tn : Option S) (ds : List Dr) (ok : ∀ r ∈ ds, DOk r) (mo : Int) (p : Str) (hp : p = "paul" ∨ p = "pia") (z6 : Option S) (inc : Int) (hi : 0 ≤ inc ∧ inc < 40) (z10 z11 z12 z13 z14 z15 z16 z17 z18 z19 : Option S) (M : Ms) :
    isS (fun e M' => ∃ z8 z10 z11, e = ES ns tn (ds.map Dr.row) mo p z6 inc z8 (some (.d (optD (shortL ds p mo inc)))) z10 z11 z12 z13 z14 z15 z16 z17 z18 z19 ∧ M' = M)
      (st5 (ES ns tn (ds.map Dr.row) mo p z6 inc (some (.d (.int mo))) (some (.d .non)) z10 z11 z12 z13 z14 z15 z16 z17 z18 z19) M) := by
  have h26 := days26_eq
  have hG0 := Gs_m1 ds ok p
  refine isS_imp (for_S days26 D.int (fun i e M' => ∃ z10 z11, e = ES ns tn (ds.map Dr.row) mo p z6 inc (some (.d (.int (pur ds p mo inc i)))) (some (.d (optD ((days26.take i).find? (lackP ds p mo inc))))) z10 z11 z12 z13 z14 z15 z16 z17 z18 z19 ∧ M' = M) (M1 := M) (by simp [h26]) ⟨z10, z11, by
    have : pur ds p mo inc ((0 : Nat) : Int) = mo := by
      unfold pur
      rw [show ((0 : Nat) : Int) = 0 from rfl, hG0]
      simp
    rw [this]; rfl, rfl⟩ ?_) ?_
  · rintro i x e M' hx ⟨z10, z11, rfl, rfl⟩
    obtain ⟨hxi, hx0, hx25⟩ := days26_get hx
    have hfn := find_next (P := lackP ds p mo inc) hx
    have hp1 : pur ds p mo inc (i : Nat) + (if 0 < x then inc else 0) = mo + inc * x - Gs ds p (x - 1) := by
      rw [← hxi]
      unfold pur
      by_cases h0 : x = 0
      · subst h0; simp
      · rw [if_neg h0, if_pos (by omega), Int.mul_sub, Int.mul_one]; omega
    have hp2 : pur ds p mo inc ((i + 1 : Nat) : Int) = mo + inc * x - Gs ds p (x - 1) - day1 ds p x := by
      have e1 : ((i + 1 : Nat) : Int) = x + 1 := by omega
      rw [e1]
      unfold pur
      rw [if_neg (by omega), show x + 1 - 1 = x by omega, Gs_next ds p x]
      omega
    have hlk : lackP ds p mo inc x = decide (pur ds p mo inc ((i + 1 : Nat) : Int) < 0) := by
      unfold lackP
      rw [hp2, Gs_next ds p x, decide_eq_decide]
      omega
    rw [hfn, hlk]
    rw [hp2] at *
    generalize hpu : pur ds p mo inc (i : Nat) = pu at *
    generalize (days26.take i).find? (lackP ds p mo inc) = sh at *
    refine turn_v (by simp) ?_
    have hcont := s_inn ns tn ds ok mo p hp z6 inc (pu + if 0 < x then inc else 0) x (some (.d (optD sh))) z11 z12 z13 z14 z15 z16 z17 z18 z19 M'
    rw [hp1] at hcont
    refine seq_nx (e1 := ES ns tn (ds.map Dr.row) mo p z6 inc (some (.d (.int (mo + inc * x - Gs ds p (x - 1))))) (some (.d (optD sh))) (some (.d (.int x))) z11 z12 z13 z14 z15 z16 z17 z18 z19) (M1 := M') (by
      rw [← hp1]
      by_cases h0 : 0 < x <;> simp [h0]) ?_
    refine seq_s hcont ?_
    rintro _ N ⟨y11, rfl, rfl⟩
    clear hfn hcont hlk hp1
    generalize mo + inc * x - Gs ds p (x - 1) - day1 ds p x = fin at *
    refine isS_of (e := ES ns tn (ds.map Dr.row) mo p z6 inc (some (.d (.int fin))) (some (.d (optD (orS sh (decide (fin < 0)) x)))) (some (.d (.int x))) y11 z12 z13 z14 z15 z16 z17 z18 z19) (M := N) ?_ ⟨_, _, rfl, rfl⟩
    cases sh with
    | some y => simp [optD, orS]
    | none => by_cases hf : fin < 0 <;> simp [optD, hf, orS]
  · rintro e M' ⟨z10, z11, rfl, rfl⟩
    exact ⟨_, _, _, by unfold shortL; rw [show days26.take days26.length = days26 from List.take_length], rfl⟩
end K71
namespace K71
open PySem L2 G
theorem turn_ok {ds : List Dr} (ok : ∀ r ∈ ds, DOk r) : ∀ r ∈ turnL ds, nameOk r.py = true := fun r hr => py_ok (ok r ((turn_perm ds).mem_iff.mp hr)).py
theorem turn_len (ds : List Dr) : (turnL ds).length = ds.length := (turn_perm ds).length_eq
theorem s_flS (ds : List Dr) (hl : ds.length ≤ 16) (ok : ∀ r ∈ ds, DOk r) (p : Str) (hp : p = "paul" ∨ p = "pia") (mo inc : Int) (hm : 0 ≤ mo ∧ mo ≤ 9999) (hi : 0 ≤ inc ∧ inc < 40) (M : Ms) :
    F_first_lacking [.d (.lst (ds.map Dr.d)), .d (.str p), .d (.int mo), .d (.int inc)] M = some (.d (optD (shortL ds p mo inc)), M) := by
  rw [s_first_lacking ds (by omega) p (py_ok hp) (turn_ok ok) (by rw [turn_len]; omega) mo inc hm (by omega) M, firstL_short ds ok p mo inc hm.1 hi.1]
theorem s_owS (ds : List Dr) (hl : ds.length ≤ 16) (ok : ∀ r ∈ ds, DOk r) (p : Str) (hp : p = "paul" ∨ p = "pia") (M : Ms) :
    F_owed_on [.d (.lst (ds.map Dr.d)), .d (.str p)] M = some (.d (.dct (kvI (KV ds p (dues ds)))), M) := by
  rw [s_owed_on ds (by omega) p (py_ok hp) (turn_ok ok) (by rw [turn_len]; omega) M, owed_KV]
theorem KV_rev (ds : List Dr) (p : Str) : KV ds.reverse p (dues ds.reverse) = KV ds p (dues ds) := by
  rw [dues_perm (List.reverse_perm ds), KV_perm (List.reverse_perm ds)]
theorem short_rev (ds : List Dr) (p : Str) (mo inc : Int) : shortL ds.reverse p mo inc = shortL ds p mo inc := by
  unfold shortL
  congr 1
  funext d
  unfold lackP Gs
  rw [sm_perm (((List.reverse_perm ds).filter _).filter _)]
theorem lookup_nd : ∀ (mp : List (Int × Int)), (mp.map (·.1)).Nodup → ∀ p ∈ mp, mp.lookup p.1 = some p.2
  | [], _, p, hp => by simp at hp
  | q :: mp, hn, p, hp => by
    obtain ⟨n1, n2⟩ := List.nodup_cons.mp hn
    rw [List.lookup_cons]
    rcases List.mem_cons.mp hp with rfl | hp
    · simp
    · have : p.1 ≠ q.1 := fun e => n1 (List.mem_map.mpr ⟨p, hp, e⟩)
      have e' : (p.1 == q.1) = false := by simpa using this
      rw [e']
      exact lookup_nd mp n2 p hp
theorem dct_same {kv : List (Int × Int)} (h : (kv.map (·.1)).Nodup) : gNe (.dct (kvI kv)) (.dct (kvI kv)) = some (.bl false) := by
  have hs : dctSame (kvI kv) (kvI kv) = true := by
    unfold dctSame
    simp only [decide_true, Bool.true_and]
    refine List.all_eq_true.mpr fun e he => ?_
    obtain ⟨p, hp, rfl⟩ := List.mem_map.mp he
    simp only [kvI_val, lookup_nd kv h p hp, Option.map_some]
    simp [flatEq]
  have e : eqC (.dct (kvI kv)) (.dct (kvI kv)) = some true := by unfold eqC; simp only [hs, if_true]
  have e2 : eqS (.dct (kvI kv)) (.dct (kvI kv)) = none := rfl
  unfold gNe eqD
  rw [e2]
  simp only [e]
  rfl
theorem ne_opt (o : Option Int) : gNe (optD o) (optD o) = some (.bl false) := by cases o <;> simp [optD]
theorem ne_same (xs : List Int) : gNe (.lst (xs.map .int)) (.lst (xs.map .int)) = some (.bl false) := by
  rw [r_gNeL, r_eqLs, r_eqSeq]
  simp
theorem sorted_ints (xs : List Int) : cSortedA [.lst (xs.map .int)] = some (.lst ((sortI xs).map .int)) := by
  unfold cSortedA cSorted lstOf
  simp [intsD_map]
abbrev FS (ns : List Int) (tn : Option S) (rs dd : List D) (mo : Int) (p : Str) (inc : Int) (sh : D) (z8 z10 z11 z12 z13 z14 z15 z16 z17 z18 z19 : Option S) : Ev := ES ns tn rs mo p (some (.d (.lst dd))) inc z8 (some (.d sh)) z10 z11 z12 z13 z14 z15 z16 z17 z18 z19
structure Mde (ds : List Dr) (mo inc : Int) (p : Str) : Prop where
  l : ds.length ≤ 8
  ok : ∀ r ∈ ds, DOk r
  mo : 0 ≤ mo ∧ mo < 300
  inc : 0 ≤ inc ∧ inc < 40
  p : p = "paul" ∨ p = "pia"
section
variable (ns : List Int) (hl : ns.length ≤ 63) (tn : Option S) (ds : List Dr) (mo : Int) (p : Str) (inc : Int) (h : Mde ds mo inc p) (z8 z10 z11 z12 z13 z14 z15 z16 z17 z18 z19 : Option S) (M : Ms)
include h
theorem s_st6 : st6 (FS ns tn (ds.map Dr.row) (ds.map Dr.d) mo p inc (optD (shortL ds p mo inc)) z8 z10 z11 z12 z13 z14 z15 z16 z17 z18 z19) M = some (.nx (FS ns tn (ds.map Dr.row) (ds.map Dr.d) mo p inc (optD (shortL ds p mo inc)) z8 z10 z11 z12 z13 z14 z15 z16 z17 z18 z19) M) := by
  have h1 := s_flS ds (by have := h.l; omega) h.ok p h.p mo inc (by have := h.mo; omega) h.inc M
  have h2 := ne_opt (shortL ds p mo inc)
  generalize optD (shortL ds p mo inc) = sh at *
  generalize ds.map Dr.d = dd at *
  generalize ds.map Dr.row = rs at *
  simp [h1, h2]
include hl in
theorem s_st7 (hM : drM ns M) : ∃ (so : List Dr) (M' : Ms), so.length ≤ 16 ∧ (∀ r ∈ so, DOk r) ∧ drM ns M' ∧ st7 (FS ns tn (ds.map Dr.row) (ds.map Dr.d) mo p inc (optD (shortL ds p mo inc)) z8 z10 z11 z12 z13 z14 z15 z16 z17 z18 z19) M = some (.nx (FS ns tn (ds.map Dr.row) (ds.map Dr.d) mo p inc (optD (shortL ds p mo inc)) z8 z10 z11 (some (.d (.lst (so.map Dr.d)))) z13 z14 z15 z16 z17 z18 z19) M') := by
  have hl8 := h.l
  obtain ⟨r, M', a1, b1, d1, f1⟩ := s_takeR ns hl (ds.length + 1) (by omega) M hM
  obtain ⟨k, hk⟩ : ∃ k : Nat, r = k := ⟨r.toNat, by omega⟩
  refine ⟨ds.drop k ++ (ds.take 3).reverse, M', by rw [List.length_append, List.length_drop, List.length_reverse, List.length_take]; omega, fun c hc => ?_, d1.1, ?_⟩
  · rcases List.mem_append.mp hc with h1 | h1
    · exact h.ok c (List.mem_of_mem_drop h1)
    · exact h.ok c (List.mem_of_mem_take (List.mem_reverse.mp h1))
  · have e1 : dSlice (.lst (ds.map Dr.d)) (some r) none = some (.lst ((ds.drop k).map Dr.d)) := by rw [hk, r_dSlice3, List.map_drop]
    have e2 : dSlice (.lst (ds.map Dr.d)) none (some 3) = some (.lst ((ds.take 3).map Dr.d)) := by
      have := r_dSlice1 (ds.map Dr.d) 3
      rw [List.map_take]; exact this
    have e3 : gLen [.lst (ds.map Dr.d)] = some (.int ds.length) := by simp
    have e4 : (ds.drop k ++ (ds.take 3).reverse).map Dr.d = (ds.drop k).map Dr.d ++ ((ds.take 3).map Dr.d).reverse := by simp
    have e5 : ((ds.drop k).map Dr.d).length + (((ds.take 3).map Dr.d).reverse).length ≤ sizeLine := by
      rw [List.length_reverse, List.length_map, List.length_map, List.length_drop, List.length_take]
      exact big_line (n := _) (by omega)
    rw [e4]
    generalize (ds.drop k).map Dr.d = A at *
    generalize (ds.take 3).map Dr.d = B at *
    generalize optD (shortL ds p mo inc) = sh at *
    generalize ds.map Dr.d = dd at *
    generalize ds.map Dr.row = rs at *
    generalize (ds.length : Int) = n at *
    rw [List.length_reverse] at e5
    simp [e1, e2, e3, f1, e5]
theorem s_st8 (so : List Dr) (hs1 : so.length ≤ 16) (hs2 : ∀ r ∈ so, DOk r) : st8 (FS ns tn (ds.map Dr.row) (ds.map Dr.d) mo p inc (optD (shortL ds p mo inc)) z8 z10 z11 (some (.d (.lst (so.map Dr.d)))) z13 z14 z15 z16 z17 z18 z19) M = some (.nx (FS ns tn (ds.map Dr.row) (ds.map Dr.d) mo p inc (optD (shortL ds p mo inc)) z8 z10 z11 (some (.d (.lst (so.map Dr.d)))) z13 z14 z15 z16 z17 z18 z19) M) := by
  have okr : ∀ r ∈ ds.reverse, DOk r := fun r hr => h.ok r (List.mem_reverse.mp hr)
  have h1 := s_owS ds (by have := h.l; omega) h.ok p h.p M
  have h2 := s_owS ds.reverse (by rw [List.length_reverse]; have := h.l; omega) okr p h.p M
  have h3 := s_flS ds.reverse (by rw [List.length_reverse]; have := h.l; omega) okr p h.p mo inc (by have := h.mo; omega) h.inc M
  rw [KV_rev] at h2
  rw [short_rev] at h3
  rw [List.map_reverse] at h2 h3
  have h4 := s_in_turn so (by omega) M
  have h5 := dct_same (rise_nodup (KV_rise ds p (dues_rise ds)))
  have h6 := ne_opt (shortL ds p mo inc)
  have h7 : gLen [.lst ((turnL so).map Dr.d)] = some (.int so.length) := by simp [turn_len]
  have h8 : gLen [.lst (so.map Dr.d)] = some (.int so.length) := by simp
  generalize optD (shortL ds p mo inc) = sh at *
  generalize ds.map Dr.d = dd at *
  generalize ds.map Dr.row = rs at *
  generalize so.map Dr.d = sd at *
  generalize (turnL so).map Dr.d = td at *
  generalize (so.length : Int) = n at *
  generalize kvI (KV ds p (dues ds)) = K at *
  simp [h1, h2, h3, h4, h5, h6, h7, h8]
theorem s_st9 : st9 (FS ns tn (ds.map Dr.row) (ds.map Dr.d) mo p inc (optD (shortL ds p mo inc)) z8 z10 z11 z12 z13 z14 z15 z16 z17 z18 z19) M = some (.nx (FS ns tn (ds.map Dr.row) (ds.map Dr.d) mo p inc (optD (shortL ds p mo inc)) z8 z10 z11 z12 z13 z14 z15 z16 z17 z18 z19) M) := by
  have hmo := h.mo
  have hsb : sm ds ≤ 8 * 200 := by
    have : ∀ L : List Dr, (∀ r ∈ L, DOk r) → sm L ≤ L.length * 200 := fun L => by
      induction L with
      | nil => intro _; simp
      | cons r L ih =>
        intro hk
        have h1 := ih fun x hx => hk x (List.mem_cons_of_mem _ hx)
        have h2 := (hk r (List.mem_cons_self ..)).mo
        rw [sm_cons, List.length_cons]; omega
    have h1 := this ds h.ok
    have := h.l
    omega
  have hs0 := sm_nn h.ok
  have h1 := s_flS ds (by have := h.l; omega) h.ok p h.p (mo + sm ds) inc (by omega) h.inc M
  rw [short_more h.ok p hmo.1 h.inc.1] at h1
  have h2 := s_flS ds (by have := h.l; omega) h.ok p h.p (mo + 5) inc (by omega) h.inc M
  have hlc : cLc (iSeq (eVar 3)) (gVar 11) tTrue (eBin dIdx (eVar 11) (eCst (D.int 0))) [11] (FS ns tn (ds.map Dr.row) (ds.map Dr.d) mo p inc (optD (shortL ds p mo inc)) z8 z10 z11 z12 z13 z14 z15 z16 z17 z18 z19) M = some (.lst ((ds.map Dr.mo).map D.int), M) := by
    rw [List.map_map]
    refine cLc_map (M1 := M) ds Dr.row _ ?_ ?_ (big_line (by have := h.l; omega))
    · simp
    · intro y hy acc
      exact ⟨FS ns tn (ds.map Dr.row) (ds.map Dr.d) mo p inc (optD (shortL ds p mo inc)) z8 z10 (some (.d y.row)) z12 z13 z14 z15 z16 z17 z18 z19, by simp [wipeE], by simp⟩
  have hsum := r_gSum (ds.map Dr.mo)
  have hsm : (ds.map Dr.mo).sum = sm ds := rfl
  rw [hsm] at hsum
  have hlt : mo + sm ds < 9999 := by omega
  have hcs : ∀ o : Option Int, shortL ds p mo inc = o → (o = none → shortL ds p (mo + 5) inc = none) := fun o e e2 => short_five (by rw [e, e2])
  generalize (ds.map Dr.mo).map D.int = ms at *
  generalize hS : sm ds = S at *
  have hg : gMin [.int 9999, .int (mo + S)] = some (.int (mo + S)) := by simp [hlt]
  cases e : shortL ds p mo inc with
  | some d =>
    rw [e] at hlc
    rw [show optD (some d) = .int d from rfl] at hlc ⊢
    generalize ds.map Dr.d = dd at *
    generalize ds.map Dr.row = rs at *
    simp [hlc, hsum, hg, h1, optD, Cell.toD, -r_gMin2]
  | none =>
    rw [short_five e] at h2
    generalize ds.map Dr.d = dd at *
    generalize ds.map Dr.row = rs at *
    simp [h2, optD]
end
end K71
namespace K71
open PySem L2 G
section
variable (ns : List Int) (hl : ns.length ≤ 63) (tn : Option S) (ds : List Dr) (mo : Int) (p : Str) (inc : Int) (h : Mde ds mo inc p) (z8 z10 z11 z12 z13 z14 z15 z16 z17 z18 z19 : Option S) (M : Ms) (sh : D)
include h
theorem in_turn8 : F_in_turn [.d (.lst (ds.map Dr.d))] M = some (.d (.lst ((turnL ds).map Dr.d)), M) := s_in_turn ds (by have := h.l; omega) M
theorem s_st10 : st10 (FS ns tn (ds.map Dr.row) (ds.map Dr.d) mo p inc sh z8 z10 z11 z12 z13 z14 z15 z16 z17 z18 z19) M = some (.nx (FS ns tn (ds.map Dr.row) (ds.map Dr.d) mo p inc sh z8 z10 z11 z12 z13 (some (.d (.lst (((turnL ds).map Dr.du).map .int)))) z15 z16 z17 z18 z19) M) := by
  have h1 := in_turn8 ds mo p inc h M
  have hlc : cLc (iSeq (eFn F_in_turn (aCons (eVar 6) aNil))) (gVar 13) tTrue (eAttr "due" (eVar 13)) [13] (FS ns tn (ds.map Dr.row) (ds.map Dr.d) mo p inc sh z8 z10 z11 z12 z13 z14 z15 z16 z17 z18 z19) M = some (.lst (((turnL ds).map Dr.du).map D.int), M) := by
    rw [List.map_map]
    refine cLc_map (M1 := M) (turnL ds) Dr.d _ ?_ ?_ (by rw [turn_len]; exact big_line (by have := h.l; omega))
    · simp [h1]
    · intro y hy acc
      exact ⟨FS ns tn (ds.map Dr.row) (ds.map Dr.d) mo p inc sh z8 z10 z11 z12 (some (.d y.d)) z14 z15 z16 z17 z18 z19, by simp [wipeE], by simp⟩
  generalize ((turnL ds).map Dr.du).map D.int = us at *
  show sAsg (eTree (cLc _ _ _ _ _)) _ _ _ = _
  rw [r_sAsg, r_eTree]
  simp only [List.map_cons, List.map_nil]
  rw [hlc]
  simp [Cell.toD]
theorem s_st11 : st11 (FS ns tn (ds.map Dr.row) (ds.map Dr.d) mo p inc sh z8 z10 z11 z12 z13 (some (.d (.lst (((turnL ds).map Dr.du).map .int)))) z15 z16 z17 z18 z19) M = some (.nx (FS ns tn (ds.map Dr.row) (ds.map Dr.d) mo p inc sh z8 z10 z11 z12 z13 (some (.d (.lst (((turnL ds).map Dr.du).map .int)))) z15 z16 z17 z18 z19) M) := by
  have h1 := in_turn8 ds mo p inc h M
  have hpk : PyData.strOk p = true := nameOk_ok (py_ok h.p)
  have hlc1 : ∀ us : D, cLc (iSeq (eFn F_in_turn (aCons (eVar 6) aNil))) (gVar 13) tTrue (eAttr "money" (eVar 13)) [13] (FS ns tn (ds.map Dr.row) (ds.map Dr.d) mo p inc sh z8 z10 z11 z12 z13 (some (.d us)) z15 z16 z17 z18 z19) M = some (.lst (((turnL ds).map Dr.mo).map D.int), M) := fun us => by
    rw [List.map_map]
    refine cLc_map (M1 := M) (turnL ds) Dr.d _ ?_ ?_ (by rw [turn_len]; exact big_line (by have := h.l; omega))
    · simp [h1]
    · intro y hy acc
      exact ⟨FS ns tn (ds.map Dr.row) (ds.map Dr.d) mo p inc sh z8 z10 z11 z12 (some (.d y.d)) (some (.d us)) z15 z16 z17 z18 z19, by simp [wipeE], by simp⟩
  have hlc2 : ∀ us : D, cLc (iSeq (eVar 3)) (gVar 11) tTrue (eBin dIdx (eVar 11) (eCst (D.int 0))) [11] (FS ns tn (ds.map Dr.row) (ds.map Dr.d) mo p inc sh z8 z10 z11 z12 z13 (some (.d us)) z15 z16 z17 z18 z19) M = some (.lst ((ds.map Dr.mo).map D.int), M) := fun us => by
    rw [List.map_map]
    refine cLc_map (M1 := M) ds Dr.row _ ?_ ?_ (big_line (by have := h.l; omega))
    · simp
    · intro y hy acc
      exact ⟨FS ns tn (ds.map Dr.row) (ds.map Dr.d) mo p inc sh z8 z10 (some (.d y.row)) z12 z13 (some (.d us)) z15 z16 z17 z18 z19, by simp [wipeE], by simp⟩
  have hlc3 : ∀ us : D, cLc (iSeq (eVar 3)) (gVar 11) (tAnd_ (eTest (eBin gEq (eBin dIdx (eVar 11) (eCst (D.int 1))) (eVar 5))) (eTru mtB (ptT fa) (eBin dIdx (eVar 11) (eCst (D.int 3))))) (eBin dIdx (eVar 11) (eCst (D.int 0))) [11] (FS ns tn (ds.map Dr.row) (ds.map Dr.d) mo p inc sh z8 z10 z11 z12 z13 (some (.d us)) z15 z16 z17 z18 z19) M = some (.lst (((ds.filter (qr p)).map Dr.mo).map D.int), M) := fun us => by
    rw [List.map_map]
    refine cLc_filter (M1 := M) ds Dr.row _ (qr p) ?_ ?_ (big_line (by have := h.l; omega))
    · simp
    · intro y hy acc
      have hyk : PyData.strOk y.py = true := nameOk_ok (py_ok (h.ok y hy).py)
      refine ⟨FS ns tn (ds.map Dr.row) (ds.map Dr.d) mo p inc sh z8 z10 (some (.d y.row)) z12 z13 (some (.d us)) z15 z16 z17 z18 z19, by simp [wipeE], ?_, fun _ => by simp⟩
      unfold qr
      cases h : decide (y.py = p) <;> simp_all
  have h2 := s_owS ds (by have := h.l; omega) h.ok p h.p M
  have hv : dctV (.dct (kvI (KV ds p (dues ds)))) = some (((KV ds p (dues ds)).map (·.2)).map .int) := by
    rw [r_dctV]; unfold kvI; rw [List.map_map, List.map_map]; rfl
  have g1 := r_gSum ((KV ds p (dues ds)).map (·.2))
  rw [KV_all] at g1
  have g2 := r_gSum ((ds.filter (qr p)).map Dr.mo)
  have hsm : ((ds.filter (qr p)).map Dr.mo).sum = sm (ds.filter (qr p)) := rfl
  rw [hsm] at g2
  have s1 := sorted_ints ((turnL ds).map Dr.du)
  rw [days_sorted] at s1
  have s2 := sorted_ints ((turnL ds).map Dr.mo)
  have s3 := sorted_ints (ds.map Dr.mo)
  rw [money_sorted] at s2
  have e1 := ne_same ((turnL ds).map Dr.du)
  have e2 := ne_same (sortI (ds.map Dr.mo))
  generalize ((turnL ds).map Dr.du).map D.int = us at *
  have hlc1 := hlc1 (.lst us)
  have hlc2 := hlc2 (.lst us)
  have hlc3 := hlc3 (.lst us)
  generalize ((turnL ds).map Dr.mo).map D.int = m1 at *
  generalize (sortI (ds.map Dr.mo)).map D.int = m2 at *
  generalize (ds.map Dr.mo).map D.int = m3 at *
  generalize ((ds.filter (qr p)).map Dr.mo).map D.int = m4 at *
  generalize ((KV ds p (dues ds)).map (·.2)).map D.int = m5 at *
  generalize sm (ds.filter (qr p)) = tot at *
  generalize kvI (KV ds p (dues ds)) = K at *
  generalize ds.map Dr.d = dd at *
  generalize ds.map Dr.row = rs at *
  simp [hlc1, hlc2, hlc3, h2, hv, g1, g2, s1, s2, s3, e1, e2, Cell.toD, -r_gNeL, -r_dctV]
include hl in
theorem s_st12 (hM : drM ns M) : isS (fun e M' => drM ns M' ∧ ∃ z10 z13 z15 z16, e = FS ns tn (ds.map Dr.row) (ds.map Dr.d) mo p inc sh z8 z10 z11 z12 z13 z14 z15 z16 z17 z18 z19) (st12 (FS ns tn (ds.map Dr.row) (ds.map Dr.d) mo p inc sh z8 z10 z11 z12 z13 z14 z15 z16 z17 z18 z19) M) := by
  refine for_S ds Dr.d (fun _ e M' => drM ns M' ∧ ∃ z10 z13 z15 z16, e = FS ns tn (ds.map Dr.row) (ds.map Dr.d) mo p inc sh z8 z10 z11 z12 z13 z14 z15 z16 z17 z18 z19) (M1 := M) (by simp) ⟨hM, _, _, _, _, rfl⟩ ?_
  rintro i c e M1 hx ⟨hM1, z10, z13, z15, z16, rfl⟩
  have o := h.ok c (List.mem_of_getElem? hx)
  refine turn_v (by simp) ?_
  obtain ⟨day, N1, p1, p2, p3, p4⟩ := s_takeR ns hl 30 (by decide) M1 hM1
  obtain ⟨rate, N2, q1, q2, q3, q4⟩ := s_takeR ns hl 10 (by decide) N1 p3.1
  have w1 := s_worth c o day rate (by omega) (by omega) N2
  have w2 := s_worth c o day (rate + 1) (by omega) (by omega) N2
  have w3 := s_worth c o (day + 1) rate (by omega) (by omega) N2
  have w4 := s_worth c o c.du rate (by have := o.du; omega) (by omega) N2
  have w5 := s_worth c o day 0 (by omega) (by omega) N2
  rw [wor_due] at w4
  rw [wor_free] at w5
  have b1 := wor_bd c o day rate q1
  have b2 := wor_rate o day rate
  have b3 := wor_day o day rate q1
  generalize wor c day rate = late at *
  generalize wor c day (rate + 1) = l2 at *
  generalize wor c (day + 1) rate = l3 at *
  have m1 : ¬ late < l2 := by omega
  have m2 : ¬ l3 < late := by omega
  generalize ds.map Dr.d = dd at *
  generalize ds.map Dr.row = rs at *
  refine seq_nx (e1 := FS ns tn rs dd mo p inc sh z8 (some (.d (.int day))) z11 z12 (some (.d c.d)) z14 (some (.d (.int rate))) z16 z17 z18 z19) (M1 := N2) (by simp [p4, q4]) ?_
  refine seq_nx (e1 := FS ns tn rs dd mo p inc sh z8 (some (.d (.int day))) z11 z12 (some (.d c.d)) z14 (some (.d (.int rate))) (some (.d (.int late))) z17 z18 z19) (M1 := N2) (by simp [w1]) ?_
  have hch : eChain (gI fun i j => D.bl (decide (i ≤ j))) (gI fun i j => D.bl (decide (i ≤ j))) (eCst (D.int 0)) (eVar 16) (eAttr "money" (eVar 13)) (FS ns tn rs dd mo p inc sh z8 (some (.d (.int day))) z11 z12 (some (.d c.d)) z14 (some (.d (.int rate))) (some (.d (.int late))) z17 z18 z19) N2 = some (.d (.bl (decide (0 ≤ late) && decide (late ≤ c.mo))), N2) :=
    r_chainI (g := fun i j => decide (i ≤ j)) (g' := fun i j => decide (i ≤ j)) (by simp) (by simp) (by simp)
  refine isS_of (e := FS ns tn rs dd mo p inc sh z8 (some (.d (.int day))) z11 z12 (some (.d c.d)) z14 (some (.d (.int rate))) (some (.d (.int late))) z17 z18 z19) (M := N2) ?_ ⟨q3.1, _, _, _, _, rfl⟩
  simp [hch, b1.1, b1.2, w2, w3, w4, w5, m1, m2]
end
theorem body_ok (ns : List Int) (hl : ns.length ≤ 63) (e : Ev) (M : Ms) (hM : drM ns M) (he : e.length = 20) (h0 : e[0]? = some (some (.d (.scr ns)))) (h1 : e[1]? = some (some (.hd 0))) :
    isS (fun e M => drM ns M ∧ e.length = 20 ∧ e[0]? = some (some (.d (.scr ns))) ∧ e[1]? = some (some (.hd 0))) (bodyL e M) := by
  match e, he with
  | [a0, a1, tn, z3, z4, z5, z6, z7, z8, z9, z10, z11, z12, z13, z14, z15, z16, z17, z18, z19], _ =>
  simp only [List.getElem?_cons_zero, List.getElem?_cons_succ, Option.some.injEq] at h0 h1
  subst h0 h1
  obtain ⟨ds, M1, c1, c2, c3, c4⟩ := s_st1 ns hl tn z3 z4 z5 z6 z7 z8 z9 z10 z11 z12 z13 z14 z15 z16 z17 z18 z19 M hM
  refine seq_nx c4 ?_
  refine seq_nx (s_st2 ns tn _ _ _ _ _ _ _ _ _ _ _ _ _ _ _ _ M1 ds c1 c2) ?_
  obtain ⟨mo, inc, p, M3, d1, d2, d3, d4, d5⟩ := s_st3 ns hl tn (some (.d (.lst (ds.map Dr.row)))) z4 z5 (some (.d (.lst (ds.map Dr.d)))) z7 z8 z9 z10 z11 z12 z13 z14 z15 z16 z17 z18 z19 M1 c3
  refine seq_nx d5 ?_
  have hm : Mde ds mo inc p := ⟨c1, c2, d1, d2, d3⟩
  refine seq_nx (e1 := ES ns tn (ds.map Dr.row) mo p (some (.d (.lst (ds.map Dr.d)))) inc (some (.d (.int mo))) (some (.d .non)) z10 z11 z12 z13 z14 z15 z16 z17 z18 z19) (M1 := M3) (by simp) ?_
  refine seq_s (s_st5 ns tn ds c2 mo p d3 _ inc d2 z10 z11 z12 z13 z14 z15 z16 z17 z18 z19 M3) ?_
  rintro _ _ ⟨y8, y10, y11, rfl, rfl⟩
  refine seq_nx (s_st6 ns tn ds mo p inc hm y8 y10 y11 z12 z13 z14 z15 z16 z17 z18 z19 _) ?_
  obtain ⟨so, M7, f1, f2, f3, f4⟩ := s_st7 ns hl tn ds mo p inc hm y8 y10 y11 z12 z13 z14 z15 z16 z17 z18 z19 _ d4
  refine seq_nx f4 ?_
  refine seq_nx (s_st8 ns tn ds mo p inc hm y8 y10 y11 z13 z14 z15 z16 z17 z18 z19 M7 so f1 f2) ?_
  refine seq_nx (s_st9 ns tn ds mo p inc hm y8 y10 y11 _ z13 z14 z15 z16 z17 z18 z19 M7) ?_
  refine seq_nx (s_st10 ns tn ds mo p inc hm y8 y10 y11 _ z13 z14 z15 z16 z17 z18 z19 M7 _) ?_
  refine seq_nx (s_st11 ns tn ds mo p inc hm y8 y10 y11 _ z13 z15 z16 z17 z18 z19 M7 _) ?_
  refine isS_imp (s_st12 ns hl tn ds mo p inc hm y8 y10 y11 _ z13 _ z15 z16 z17 z18 z19 M7 _ f3) ?_
  rintro _ _ ⟨g1, y10, y13, y15, y16, rfl⟩
  exact ⟨g1, rfl, rfl, rfl⟩
theorem law_true : ∀ ns : List Int, ns.length ≤ 63 → F_law [.d (.scr ns)] [] = some (.d (.bl true), []) := by
  intro ns hl
  have hz := two_line
  refine fn_x rfl rfl ?_
  show isX (.bl true) [] (P_law.1 _ _)
  rw [law_eq]
  refine seq_nx (e1 := [some (.d (.scr ns)), some (.hd 0)] ++ List.replicate 18 none) (M1 := [.lst [.scr ns, .int 0]]) (by simp [hz, List.replicate]) ?_
  refine seq_forS (List.range 8) (fun i => .int (0 + (i : Nat))) (fun i e M => drM ns M ∧ e.length = 20 ∧ e[0]? = some (some (.d (.scr ns))) ∧ e[1]? = some (some (.hd 0))) (M1 := [.lst [.scr ns, .int 0]]) (by simp [rangeD]) ⟨⟨0, by decide, rfl⟩, rfl, rfl, rfl⟩ ?_ ?_
  · rintro i x e M hx ⟨h1, h3, h4, h5⟩
    refine turn_v (by omega) ?_
    exact body_ok ns hl _ M h1 (by simp [h3]) (by rw [List.getElem?_set_ne (by decide)]; exact h4) (by rw [List.getElem?_set_ne (by decide)]; exact h5)
  · rintro e M _
    exact isX_app (M' := []) (by simp; rfl)
end K71
namespace K71
open PySem L2 G
/-! ### the head -/
abbrev R : PySem.W.OpenRow := PySem.W.OpenLaw.row PySem.Challenge.rw_goodsbypapers_k71_money_day_by_day
abbrev hk : PySem.W.Hook := hookX 4 fa fn
def ob (s : PySem.W.SharedT) : He.AlD := obsXG 4 fa fn (HandSHeadRun.getT s)
theorem ob_eq (s : PySem.W.SharedT) : ob s = hk.obs s.abs := obsXG_eq (HandSHeadRun.getT_eq s)
def loose : List Str := (["__name__", "GoodsError", "BadPart", "SMALL", "FIGURES", "is_integer", "is_number", "check_number", "is_name", "check_name", "is_row", "Draft", "check_passed", "worth", "in_turn", "owed_on", "first_lacking", "_law_number", "_law_take", "_law_pick"] : List Str)
theorem run (w : World) : HandSHeadRun.RunEq R (PySem.W.view R.prog [23]) hk ob 4000 loose w := by
  intro os
  kernel_rfl
theorem facts {P : Program} {w : World} {K : PySem.W.Frag} {h : Heap} {mg : Str → Option Value} {f : Addr} (X : K.In h) (G : h.Ns mainGlobals mg) (hfa : mg ("law" : Str) = some (.ref f)) (c : SaysX fa fn K)
    (hf : ∀ ns : List Int, ns.length ≤ 63 → F_law [.d (.scr ns)] [] = some (.d (.bl true), [])) :
    ∃ fd : FuncData, (∀ (s : Shared) (v : Value), BindsTo s fd ⟨[v], []⟩ [("script", v)]) ∧ ∀ base : Heap, K.In base → base.Ns mainGlobals mg → FnOk P w K mg base CX0 31 f fd ["script"] (spLaw K 63) := by
  obtain ⟨fd, D⟩ := c.def_ 15 (d := d_law) rfl
  have ef : f = He.fAd K ("law", none) := by
    have L0 := mkW_low c csok P w h X G
    have e := hfa.symm.trans (L0.glo mf88)
    cases e
    rfl
  subst ef
  have b := FunD.bindsA (ps := ["script"]) D fun _ _ _ _ _ _ us hl => match us, hl with | [_], _ => rfl
  refine ⟨fd, fun s v => b s [v] rfl, fun base _ _ => ?_⟩
  obtain ⟨fd', D', ok⟩ := join c (mkW c csok P w mg base) rfl (mkW_low c csok P w base X G)
  have e : fd' = fd := by
    obtain ⟨oc, od, dV, kV, doc, pm, an, cdv, ct, osl, e1, l1, _⟩ := D.ex
    obtain ⟨oc', od', dV', kV', doc', pm', an', cdv', ct', osl', e1', l1', _⟩ := D'.ex
    have := l1.symm.trans l1'
    simp only [Option.some.injEq, Obj.mk.injEq, Data.func.injEq] at this
    exact this.2.2.1.symm
  subst e
  exact law_ok (W := mkW c csok P w mg base) ok hf
end K71
open PySem PySem.W PySem.Calls PyProof.Rows
theorem PySem.Challenge.cw_goodsbypapers_k71_money_day_by_day_holds : PySem.Challenge.rw_goodsbypapers_k71_money_day_by_day.Holds := by
  w_on; o_law
  refine HandSHeadRun.head_any (r := OpenLaw.row PySem.Challenge.rw_goodsbypapers_k71_money_day_by_day) (q := view (OpenLaw.row PySem.Challenge.rw_goodsbypapers_k71_money_day_by_day).prog [23]) (H := K71.hk) (ob := K71.ob) (M := 4000) (loose := K71.loose) (d := HandSHeadRun.topDef (OpenLaw.row PySem.Challenge.rw_goodsbypapers_k71_money_day_by_day).prog 23) (kwd := []) K71.ob_eq
    (by kernel_rfl) (fun s => by kernel_rfl) K71.run (by kernel_rfl) (by kernel_rfl) (by kernel_rfl) (by rfl) (by first | assumption | decide +kernel) (by decide +kernel) ⟨rfl, rfl, rfl, rfl, rfl, by decide +kernel⟩ ?hw ?hc
  case hw => w_witness2
  case hc =>
    refine L2.walk_ofE (l := PySem.Challenge.rw_goodsbypapers_k71_money_day_by_day) (n := 63) (k := 31) (x := "script") (CX := L2.CX0) rfl (by decide) (by kernel_rfl) ⟨rfl, by decide, by decide⟩ ?F (fun _ _ _ _ z => z)
    intro w mg fa h Y GG hmg0
    obtain ⟨K, KX, c⟩ := Y
    have hmg : mg ("law" : PySem.Str) = some (.ref fa) := by
      have e : (HandSHeadRun.topDef (OpenLaw.row PySem.Challenge.rw_goodsbypapers_k71_money_day_by_day).prog 23).name = ("law" : PySem.Str) := by kernel_rfl
      rw [← e]
      exact hmg0
    obtain ⟨fd, hb, hF⟩ := K71.facts (P := (PySem.Challenge.rw_goodsbypapers_k71_money_day_by_day).prog) (w := w) KX GG hmg c K71.law_true
    exact ⟨K, fd, G.spLaw K 63, KX, hb, fun H a ns hl _ hS => ⟨a, ns, rfl, hl, hS, fun _ => rfl⟩, hF⟩
