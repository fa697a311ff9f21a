import PyProof.Rows.All
import Wide.All
import OpenK.AllK
import Wide.FinOn
import HandS.ForMost
import HandS.Walk
import HandS.Deep
import HandS.Flow
import HandS.Style
import HandS.Star
import HandS.Zip
import HandS.IsInst
import HandS.TupAny
import HandS.Codes
import HandS.SortInts
import HandS.TupMul
import HandS.Defaults
import HandS.Small
import HandS.Records
import HandS.RaiseMore
import HandS.Head0
import HandS.Head1
import HandS.Head2
import HandS.HeadEnd
import HandS.HeadHook1
import HandS.HeadHook2
import HandS.ForDict
import HandS.DictComp
import PySem.Challenge.RW_goodsbypapers_k66_failing_hands_counted
set_option Elab.async false
set_option linter.all false
set_option autoImplicit false
set_option maxRecDepth 100000
set_option maxHeartbeats 0
/-! Pure data over the hand layer: trees of data (D), handles to what is changed (S, Cell), what stands for them in the heap. -/
namespace G
open PySem L2
/-- a thing as a tree; script: the law's own list -/
inductive D where
  | non | bl (b : Bool) | int (i : Int) | str (x : Str) | tup (ds : List D) | lst (ds : List D) | scr (ns : List Int)
  | dct (kvs : List (Key × D)) | obj (c : Str) (fs : List (Str × D))
  deriving Inhabited
/-- what a name holds: a tree, or the k-th cell -/
inductive S where
  | d (x : D) | hd (k : Nat)
  deriving Inhabited
/-- a cell: a list, a dict, an instance that are changed; frz: one that is changed no more -/
inductive Cell where
  | lst (ds : List D) | dct (kvs : List (Key × D)) | obj (c : Str) (fs : List (Str × D)) | frz (d : D)
  deriving Inhabited
abbrev Ev := List (Option S)
abbrev Ms := List Cell
abbrev EF := Ev → Ms → Option (S × Ms)
abbrev TF := Ev → Ms → Option (Bool × Ms)
abbrev AF := Ev → Ms → Option (List S × Ms)
inductive Out where
  | nx (e : Ev) (M : Ms) | rt (s : S) (M : Ms) | bk (e : Ev) (M : Ms) | ct (e : Ev) (M : Ms)
abbrev SF := Ev → Ms → Option Out
abbrev FSem := List S → Ms → Option (S × Ms)
def Cell.toD : Cell → D
  | .lst ds => .lst ds
  | .dct kvs => .dct kvs
  | .obj c fs => .obj c fs
  | .frz d => d
/-- what is read -/
def view (M : Ms) : S → Option D
  | .d x => some x
  | .hd k => M[k]?.map Cell.toD
/-- it is changed no more -/
def frz (M : Ms) : S → Option (D × Ms)
  | .d x => some (x, M)
  | .hd k => match M[k]? with
    | some c => some (c.toD, M.set k (.frz c.toD))
    | none => none
def frzL : List S → Ms → Option (List D × Ms)
  | [], M => some ([], M)
  | s :: r, M => match frz M s with
    | some (d, M1) => match frzL r M1 with
      | some (ds, M2) => some (d :: ds, M2)
      | none => none
    | none => none
/-! ### what stands for them -/
section
variable (K : PySem.W.Frag) (cA : Str → Option Addr)
mutual
inductive Rep (F : Hp) : V → D → Prop
  | non : Rep F .non .non
  | bl (b : Bool) : Rep F (.bl b) (.bl b)
  | int (i : Int) : Rep F (.int i) (.int i)
  | str (x : Str) : Rep F (.str x) (.str x)
  | tup {a : Addr} {vs : List V} {ds : List D} : SqT K F a vs → Reps F vs ds → Rep F (.ref a) (.tup ds)
  | lst {a : Addr} {vs : List V} {ds : List D} : F a = some (.lst vs) → Reps F vs ds → Rep F (.ref a) (.lst ds)
  | scr {a : Addr} {ns : List Int} : SqL K F a (ns.map V.int) → Rep F (.ref a) (.scr ns)
  | dct {a : Addr} {kvs : List (Key × V)} {kds : List (Key × D)} : Rd F a (.dK kvs) → kvs.map (·.1) = kds.map (·.1) → Reps F (kvs.map (·.2)) (kds.map (·.2)) → Rep F (.ref a) (.dct kds)
  | obj {a C dx : Addr} {c : Str} {fs : List (Str × V)} {gs : List (Str × D)} : cA c = some C → F a = some (.ins C dx fs) → fs.map (·.1) = gs.map (·.1) → Reps F (fs.map (·.2)) (gs.map (·.2)) → (∀ f ∈ gs.map (·.1), NoAttr K C f) → Rep F (.ref a) (.obj c gs)
inductive Reps (F : Hp) : List V → List D → Prop
  | nil : Reps F [] []
  | cons {v : V} {d : D} {vs : List V} {ds : List D} : Rep F v d → Reps F vs ds → Reps F (v :: vs) (d :: ds)
end
end
def Sub (F F' : Hp) : Prop := ∀ a o, F a = some o → F' a = some o
theorem Sub.refl (F : Hp) : Sub F F := fun _ _ h => h
theorem Sub.trans {A B C : Hp} (h : Sub A B) (h' : Sub B C) : Sub A C := fun a o e => h' a o (h a o e)
theorem Sub.upd {F : Hp} {p : Addr} {o : HO} (h : F p = none) : Sub F (L2.upd F p o) := fun a u e => by rw [upd_ne (ne_of_none e h)]; exact e
theorem Sub.none {F H : Hp} (h : Sub F H) {p : Addr} (e : H p = none) : F p = none := by
  cases q : F p with
  | none => rfl
  | some o => rw [h p o q] at e; cases e
theorem Sub.updB {F H : Hp} (h : Sub F H) {p : Addr} {o : HO} : Sub (L2.upd F p o) (L2.upd H p o) := fun a u e => by
  by_cases ha : a = p
  · subst ha; rw [upd_same] at e ⊢; exact e
  · rw [upd_ne ha] at e ⊢; exact h a u e
/-- what stands still stands in the heap; a dict may be locked there -/
def SubH (F H : Hp) : Prop := ∀ a o, F a = some o → H a = some o ∨ ∃ kvs ob, o = .dK kvs ∧ H a = some (.frz ob o)
theorem Sub.h {F H : Hp} (h : Sub F H) : SubH F H := fun a o e => .inl (h a o e)
theorem SubH.none {F H : Hp} (h : SubH F H) {p : Addr} (e : H p = none) : F p = none := by
  cases q : F p with
  | none => rfl
  | some o =>
    rcases h p o q with z | ⟨_, _, _, z⟩
    · rw [z] at e; cases e
    · rw [z] at e; cases e
theorem SubH.transS {F H H' : Hp} (h : SubH F H) (s : Sub H H') : SubH F H' := fun a o e => by
  rcases h a o e with z | ⟨k, b, z, q⟩
  · exact .inl (s _ _ z)
  · exact .inr ⟨k, b, z, s _ _ q⟩
theorem SubH.refl (F : Hp) : SubH F F := fun _ _ h => .inl h
theorem SubH.trans {A B C : Hp} (h : SubH A B) (s : SubH B C) : SubH A C := fun a o e => by
  rcases h a o e with z | ⟨k, b, z, q⟩
  · exact s _ _ z
  · rcases s _ _ q with w | ⟨k', b', w, _⟩
    · exact .inr ⟨k, b, z, w⟩
    · cases w
theorem SubH.upd {F : Hp} {p : Addr} {o : HO} (h : F p = Option.none) : SubH F (L2.upd F p o) := (Sub.upd h).h
theorem SubH.lst {F H : Hp} (h : SubH F H) {a : Addr} {xs : List V} (e : F a = some (.lst xs)) : H a = some (.lst xs) := by
  rcases h _ _ e with z | ⟨_, _, z, _⟩
  · exact z
  · cases z
theorem SubH.tup {F H : Hp} (h : SubH F H) {a : Addr} {xs : List V} (e : F a = some (.tup xs)) : H a = some (.tup xs) := by
  rcases h _ _ e with z | ⟨_, _, z, _⟩
  · exact z
  · cases z
theorem SubH.frz {F H : Hp} (h : SubH F H) {a : Addr} {o : Obj} {u : HO} (e : F a = some (.frz o u)) : H a = some (.frz o u) := by
  rcases h _ _ e with z | ⟨_, _, z, _⟩
  · exact z
  · cases z
theorem SubH.ins {F H : Hp} (h : SubH F H) {a C dx : Addr} {fs : List (Str × V)} (e : F a = some (.ins C dx fs)) : H a = some (.ins C dx fs) := by
  rcases h _ _ e with z | ⟨_, _, z, _⟩
  · exact z
  · cases z
theorem SubH.dk {F H : Hp} (h : SubH F H) {a : Addr} {kvs : List (Key × V)} (e : F a = some (.dK kvs)) : Rd H a (.dK kvs) := by
  rcases h _ _ e with z | ⟨_, ob, z, q⟩
  · exact .inl z
  · exact .inr ⟨ob, q⟩
theorem SubH.rd {F H : Hp} (h : SubH F H) {a : Addr} {kvs : List (Key × V)} (e : Rd F a (.dK kvs)) : Rd H a (.dK kvs) := by
  rcases e with e | ⟨o, e⟩
  · exact h.dk e
  · exact .inr ⟨o, h.frz e⟩
theorem SubH.updB {F H : Hp} (h : SubH F H) {p : Addr} {o : HO} : SubH (L2.upd F p o) (L2.upd H p o) := fun a u e => by
  by_cases ha : a = p
  · subst ha; rw [upd_same] at e ⊢; exact .inl e
  · rw [upd_ne ha] at e ⊢; exact h a u e
theorem SubH.sqT {K : PySem.W.Frag} {F F' : Hp} (h : SubH F F') {a : Addr} {xs : List V} (e : SqT K F a xs) : SqT K F' a xs := by
  rcases e with (e | ⟨o, e⟩) | e
  · exact .inl (.inl (h.tup e))
  · exact .inl (.inr ⟨o, h.frz e⟩)
  · exact .inr e
theorem SubH.sqL {K : PySem.W.Frag} {F F' : Hp} (h : SubH F F') {a : Addr} {xs : List V} (e : SqL K F a xs) : SqL K F' a xs := by
  rcases e with (e | ⟨o, e⟩) | e
  · exact .inl (.inl (h.lst e))
  · exact .inl (.inr ⟨o, h.frz e⟩)
  · exact .inr e
theorem Sub.sqT {K : PySem.W.Frag} {F F' : Hp} (h : Sub F F') {a : Addr} {xs : List V} (e : SqT K F a xs) : SqT K F' a xs := by
  rcases e with (e | ⟨o, e⟩) | e
  · exact .inl (.inl (h _ _ e))
  · exact .inl (.inr ⟨o, h _ _ e⟩)
  · exact .inr e
theorem Sub.sqL {K : PySem.W.Frag} {F F' : Hp} (h : Sub F F') {a : Addr} {xs : List V} (e : SqL K F a xs) : SqL K F' a xs := by
  rcases e with (e | ⟨o, e⟩) | e
  · exact .inl (.inl (h _ _ e))
  · exact .inl (.inr ⟨o, h _ _ e⟩)
  · exact .inr e
section
variable {K : PySem.W.Frag} {cA : Str → Option Addr} {F F' H H' : Hp} {v : V} {d : D} {vs : List V} {ds : List D}
mutual
theorem Rep.mono (h : SubH F F') : ∀ {v : V} {d : D}, Rep K cA F v d → Rep K cA F' v d
  | _, _, .non => .non
  | _, _, .bl b => .bl b
  | _, _, .int i => .int i
  | _, _, .str x => .str x
  | _, _, .tup a r => .tup (h.sqT a) (Reps.mono h r)
  | _, _, .lst a r => .lst (h.lst a) (Reps.mono h r)
  | _, _, .scr a => .scr (h.sqL a)
  | _, _, .dct a e r => .dct (h.rd a) e (Reps.mono h r)
  | _, _, .obj c a e r n => .obj c (h.ins a) e (Reps.mono h r) n
theorem Reps.mono (h : SubH F F') : ∀ {vs : List V} {ds : List D}, Reps K cA F vs ds → Reps K cA F' vs ds
  | _, _, .nil => .nil
  | _, _, .cons r t => .cons (Rep.mono h r) (Reps.mono h t)
end
theorem Reps.length : ∀ {vs : List V} {ds : List D}, Reps K cA F vs ds → vs.length = ds.length
  | _, _, .nil => rfl
  | _, _, .cons _ t => congrArg Nat.succ (Reps.length t)
theorem Reps.get : ∀ {vs : List V} {ds : List D} {i : Nat} {d : D}, Reps K cA F vs ds → ds[i]? = some d → ∃ v, vs[i]? = some v ∧ Rep K cA F v d
  | _, _, _, _, .nil, e => by simp at e
  | _, _, 0, _, .cons r _, e => by simp at e; subst e; exact ⟨_, rfl, r⟩
  | _, _, i + 1, x, .cons _ t, e => by
    obtain ⟨u, h1, h2⟩ := Reps.get (i := i) (d := x) t (by simpa using e)
    exact ⟨u, by simpa using h1, h2⟩
theorem Reps.getV : ∀ {vs : List V} {ds : List D} {i : Nat} {v : V}, Reps K cA F vs ds → vs[i]? = some v → ∃ d, ds[i]? = some d ∧ Rep K cA F v d
  | _, _, _, _, .nil, e => by simp at e
  | _, _, 0, _, .cons r _, e => by simp at e; subst e; exact ⟨_, rfl, r⟩
  | _, _, i + 1, x, .cons _ t, e => by
    obtain ⟨u, h1, h2⟩ := Reps.getV (i := i) (v := x) t (by simpa using e)
    exact ⟨u, by simpa using h1, h2⟩
theorem Reps.append : ∀ {vs ws : List V} {ds es : List D}, Reps K cA F vs ds → Reps K cA F ws es → Reps K cA F (vs ++ ws) (ds ++ es)
  | _, _, _, _, .nil, s => s
  | _, _, _, _, .cons r t, s => .cons r (Reps.append t s)
theorem Reps.drop : ∀ {vs : List V} {ds : List D} (n : Nat), Reps K cA F vs ds → Reps K cA F (vs.drop n) (ds.drop n)
  | _, _, 0, r => r
  | _, _, _ + 1, .nil => .nil
  | _, _, n + 1, .cons _ t => Reps.drop n t
theorem Reps.take : ∀ {vs : List V} {ds : List D} (n : Nat), Reps K cA F vs ds → Reps K cA F (vs.take n) (ds.take n)
  | _, _, 0, _ => .nil
  | _, _, _ + 1, .nil => .nil
  | _, _, n + 1, .cons r t => .cons r (Reps.take n t)
theorem Reps.set {v : V} {d : D} (r : Rep K cA F v d) : ∀ {vs : List V} {ds : List D} (i : Nat), Reps K cA F vs ds → Reps K cA F (vs.set i v) (ds.set i d)
  | _, _, _, .nil => .nil
  | _, _, 0, .cons _ t => .cons r t
  | _, _, i + 1, .cons q t => .cons q (Reps.set r i t)
theorem Reps.reverse {vs : List V} {ds : List D} (h : Reps K cA F vs ds) : Reps K cA F vs.reverse ds.reverse := by
  induction vs generalizing ds with
  | nil => cases h; exact .nil
  | cons v vs ih =>
    cases h with
    | cons r t =>
      rw [List.reverse_cons, List.reverse_cons]
      exact (ih t).append (.cons r .nil)
theorem Reps.snoc (h : Reps K cA F vs ds) (r : Rep K cA F v d) : Reps K cA F (vs ++ [v]) (ds ++ [d]) := h.append (.cons r .nil)
theorem Reps.ints : ∀ {ns : List Int}, Reps K cA F (ns.map V.int) (ns.map D.int)
  | [] => .nil
  | _ :: _ => .cons (.int _) Reps.ints
theorem Reps.intsV : ∀ {ns : List Int} {vs : List V}, Reps K cA F vs (ns.map D.int) → vs = ns.map V.int
  | [], _, h => by cases h; rfl
  | n :: ns, _, h => by
    cases h with
    | cons r t => cases r; rw [Reps.intsV t]; rfl
theorem Reps.strsV : ∀ {ns : List Str} {vs : List V}, Reps K cA F vs (ns.map D.str) → vs = ns.map V.str
  | [], _, h => by cases h; rfl
  | n :: ns, _, h => by
    cases h with
    | cons r t => cases r; rw [Reps.strsV t]; rfl
theorem Reps.blsV : ∀ {ns : List Bool} {vs : List V}, Reps K cA F vs (ns.map D.bl) → vs = ns.map V.bl
  | [], _, h => by cases h; rfl
  | n :: ns, _, h => by
    cases h with
    | cons r t => cases r; rw [Reps.blsV t]; rfl
end
/-- a value as it is read: what it is made of stands still -/
inductive VRep (K : PySem.W.Frag) (cA : Str → Option Addr) (F H : Hp) : V → D → Prop
  | rep {v : V} {d : D} : Rep K cA F v d → VRep K cA F H v d
  | lst {a : Addr} {vs : List V} {ds : List D} : H a = some (.lst vs) → Reps K cA F vs ds → VRep K cA F H (.ref a) (.lst ds)
  | dct {a : Addr} {kvs : List (Key × V)} {kds : List (Key × D)} : H a = some (.dK kvs) → kvs.map (·.1) = kds.map (·.1) → Reps K cA F (kvs.map (·.2)) (kds.map (·.2)) → VRep K cA F H (.ref a) (.dct kds)
  | obj {a C dx : Addr} {c : Str} {fs : List (Str × V)} {gs : List (Str × D)} : cA c = some C → H a = some (.ins C dx fs) → fs.map (·.1) = gs.map (·.1) → Reps K cA F (fs.map (·.2)) (gs.map (·.2)) → (∀ f ∈ gs.map (·.1), NoAttr K C f) → VRep K cA F H (.ref a) (.obj c gs)
/-- what a cell says of its address -/
def CellR (K : PySem.W.Frag) (cA : Str → Option Addr) (F H : Hp) (a : Addr) : Cell → Prop
  | .lst ds => F a = none ∧ ∃ vs, H a = some (.lst vs) ∧ Reps K cA F vs ds
  | .dct kds => F a = none ∧ ∃ kvs, H a = some (.dK kvs) ∧ kvs.map (·.1) = kds.map (·.1) ∧ Reps K cA F (kvs.map (·.2)) (kds.map (·.2))
  | .obj c gs => F a = none ∧ ∃ C dx fs, cA c = some C ∧ H a = some (.ins C dx fs) ∧ fs.map (·.1) = gs.map (·.1) ∧ Reps K cA F (fs.map (·.2)) (gs.map (·.2)) ∧ (∀ f ∈ gs.map (·.1), NoAttr K C f)
  | .frz d => Rep K cA F (.ref a) d
/-- the heap H holds the cells M at κ; F: what stands still -/
structure Stt (K : PySem.W.Frag) (cA : Str → Option Addr) (F H : Hp) (κ : List Addr) (M : Ms) : Prop where
  sub : SubH F H
  nd : κ.Nodup
  len : κ.length = M.length
  tr : ∀ a ∈ κ, ∃ o, H a = some o
  cell : ∀ (k : Nat) (a : Addr) (c : Cell), κ[k]? = some a → M[k]? = some c → CellR K cA F H a c
structure Ext (F : Hp) (κ : List Addr) (F' : Hp) (κ' : List Addr) : Prop where
  sub : SubH F F'
  pre : ∃ m, κ' = κ ++ m
theorem Ext.refl (F : Hp) (κ : List Addr) : Ext F κ F κ := ⟨.refl F, [], by simp⟩
theorem Ext.trans {F F1 F2 : Hp} {κ κ1 κ2 : List Addr} (a : Ext F κ F1 κ1) (b : Ext F1 κ1 F2 κ2) : Ext F κ F2 κ2 := by
  obtain ⟨s, m, rfl⟩ := a
  obtain ⟨t, n, rfl⟩ := b
  exact ⟨s.trans t, m ++ n, by simp⟩
theorem Ext.sub' {F F' : Hp} {κ : List Addr} (h : SubH F F') : Ext F κ F' κ := ⟨h, [], by simp⟩
def SRep (K : PySem.W.Frag) (cA : Str → Option Addr) (F : Hp) (κ : List Addr) (v : V) : S → Prop
  | .d x => Rep K cA F v x
  | .hd k => ∃ a, κ[k]? = some a ∧ v = .ref a
section
variable {K : PySem.W.Frag} {cA : Str → Option Addr} {F F' H H' : Hp} {κ κ' : List Addr} {M M' : Ms} {v : V} {s : S} {d : D}
theorem SRep.ext (e : Ext F κ F' κ') (h : SRep K cA F κ v s) : SRep K cA F' κ' v s := by
  obtain ⟨hs, m, rfl⟩ := e
  cases s with
  | d x => exact Rep.mono hs h
  | hd k =>
    obtain ⟨a, h1, h2⟩ := h
    obtain ⟨hl, _⟩ := List.getElem?_eq_some_iff.mp h1
    exact ⟨a, by rw [List.getElem?_append_left hl]; exact h1, h2⟩
theorem Stt.view (t : Stt K cA F H κ M) (r : SRep K cA F κ v s) (h : view M s = some d) : VRep K cA F H v d := by
  cases s with
  | d x =>
    have e : x = d := Option.some.inj h
    subst e
    exact .rep r
  | hd k =>
    obtain ⟨a, h1, rfl⟩ := r
    have h : M[k]?.map Cell.toD = some d := h
    cases e : M[k]? with
    | none => rw [e] at h; cases h
    | some c =>
      rw [e] at h
      have e2 : c.toD = d := Option.some.inj h
      subst e2
      have q := t.cell k a c h1 e
      cases c with
      | lst ds => obtain ⟨_, vs, q1, q2⟩ := q; exact .lst q1 q2
      | dct kds => obtain ⟨_, kvs, q1, q2, q3⟩ := q; exact .dct q1 q2 q3
      | obj c gs => obtain ⟨_, C, dx, fs, q1, q2, q3, q4, q5⟩ := q; exact .obj q1 q2 q3 q4 q5
      | frz d => exact .rep q
/-- new things beside -/
structure New (F H F' H' : Hp) : Prop where
  fr : SubH F F'
  sub : SubH F' H'
  same : Sub H H'
  old : ∀ a o, H a = some o → F a = none → F' a = none
theorem New.refl (h : SubH F H) : New F H F H := ⟨.refl _, h, .refl _, fun _ _ _ e => e⟩
theorem New.trans {F1 H1 F2 H2 : Hp} (a : New F H F1 H1) (b : New F1 H1 F2 H2) : New F H F2 H2 :=
  ⟨a.fr.trans b.fr, b.sub, a.same.trans b.same, fun x o e n => b.old x o (a.same x o e) (a.old x o e n)⟩
theorem New.one (h : SubH F H) {p : Addr} {o : HO} (hp : H p = none) : New F H (L2.upd F p o) (L2.upd H p o) :=
  ⟨SubH.upd (h.none hp), h.updB, Sub.upd hp, fun a u e n => by rw [upd_ne (ne_of_none e hp)]; exact n⟩
/-- beside, but not standing still -/
theorem New.oneH (h : SubH F H) {p : Addr} {o : HO} (hp : H p = none) : New F H F (L2.upd H p o) :=
  ⟨.refl _, h.transS (Sub.upd hp), Sub.upd hp, fun a u e n => n⟩
theorem CellR.new {a : Addr} {c : Cell} (n : New F H F' H') (h : CellR K cA F H a c) : CellR K cA F' H' a c := by
  cases c with
  | lst ds => obtain ⟨f, vs, q1, q2⟩ := h; exact ⟨n.old _ _ q1 f, vs, n.same _ _ q1, q2.mono n.fr⟩
  | dct kds => obtain ⟨f, kvs, q1, q2, q3⟩ := h; exact ⟨n.old _ _ q1 f, kvs, n.same _ _ q1, q2, q3.mono n.fr⟩
  | obj c gs => obtain ⟨f, C, dx, fs, q1, q2, q3, q4, q5⟩ := h; exact ⟨n.old _ _ q2 f, C, dx, fs, q1, n.same _ _ q2, q3, q4.mono n.fr, q5⟩
  | frz d => exact Rep.mono n.fr h
theorem Stt.new (t : Stt K cA F H κ M) (n : New F H F' H') : Stt K cA F' H' κ M := ⟨n.sub, t.nd, t.len, fun a ha => let ⟨o, e⟩ := t.tr a ha; ⟨o, n.same _ _ e⟩, fun k a c h1 h2 => (t.cell k a c h1 h2).new n⟩
theorem nodup_get {α : Type} {l : List α} (hN : l.Nodup) {i j : Nat} {x : α} (a : l[i]? = some x) (b : l[j]? = some x) : i = j := by
  obtain ⟨h1, e1⟩ := List.getElem?_eq_some_iff.mp a
  obtain ⟨h2, e2⟩ := List.getElem?_eq_some_iff.mp b
  exact (List.getElem_inj hN).mp (e1.trans e2.symm)
/-- a cell is changed no more -/
theorem Stt.frz (t : Stt K cA F H κ M) (r : SRep K cA F κ v s) (h : frz M s = some (d, M')) : ∃ F', Ext F κ F' κ ∧ Stt K cA F' H κ M' ∧ Rep K cA F' v d := by
  cases s with
  | d x =>
    have e : x = d ∧ M = M' := by simpa [G.frz] using h
    obtain ⟨rfl, rfl⟩ := e
    exact ⟨F, .refl _ _, t, r⟩
  | hd k =>
    obtain ⟨a, h1, rfl⟩ := r
    unfold G.frz at h
    cases e : M[k]? with
    | none => simp [e] at h
    | some c =>
      simp only [e, Option.some.injEq, Prod.mk.injEq] at h
      obtain ⟨rfl, rfl⟩ := h
      have q := t.cell k a c h1 e
      have key : ∀ (o : HO), F a = none → H a = some o → Rep K cA (L2.upd F a o) (.ref a) c.toD → ∃ F', Ext F κ F' κ ∧ Stt K cA F' H κ (M.set k (.frz c.toD)) ∧ Rep K cA F' (.ref a) c.toD := fun o fa ha rep => by
        have hsub : SubH (L2.upd F a o) H := fun b u e => by
          by_cases hb : b = a
          · subst hb; rw [upd_same] at e; cases e; exact .inl ha
          · rw [upd_ne hb] at e; exact t.sub b u e
        refine ⟨L2.upd F a o, .sub' (SubH.upd fa), ⟨hsub, t.nd, by rw [List.length_set]; exact t.len, t.tr, fun j b c' e1 e2 => ?_⟩, rep⟩
        by_cases hj : k = j
        · subst hj
          have hl : k < M.length := (List.getElem?_eq_some_iff.mp e).1
          rw [List.getElem?_set_self hl] at e2
          cases e2
          rw [h1] at e1; cases e1
          exact rep
        · rw [List.getElem?_set_ne hj] at e2
          have hne : b ≠ a := fun z => hj (nodup_get t.nd h1 (by rw [← z]; exact e1))
          have q := t.cell j b c' e1 e2
          have up := SubH.upd (o := o) fa
          cases c' with
          | lst ds => obtain ⟨f, vs, q1, q2⟩ := q; exact ⟨by rw [upd_ne hne]; exact f, vs, q1, q2.mono up⟩
          | dct kds => obtain ⟨f, kvs, q1, q2, q3⟩ := q; exact ⟨by rw [upd_ne hne]; exact f, kvs, q1, q2, q3.mono up⟩
          | obj c gs => obtain ⟨f, C, dx, fs, q1, q2, q3, q4, q5⟩ := q; exact ⟨by rw [upd_ne hne]; exact f, C, dx, fs, q1, q2, q3, q4.mono up, q5⟩
          | frz d => exact Rep.mono up q
      cases c with
      | lst ds => obtain ⟨f, vs, q1, q2⟩ := q; exact key _ f q1 (.lst upd_same (q2.mono (SubH.upd f)))
      | dct kds => obtain ⟨f, kvs, q1, q2, q3⟩ := q; exact key _ f q1 (.dct (.inl upd_same) q2 (q3.mono (SubH.upd f)))
      | obj c gs => obtain ⟨f, C, dx, fs, q1, q2, q3, q4, q5⟩ := q; exact key _ f q2 (.obj q1 upd_same q3 (q4.mono (SubH.upd f)) q5)
      | frz d =>
        refine ⟨F, .refl _ _, ⟨t.sub, t.nd, by rw [List.length_set]; exact t.len, t.tr, fun j b c' e1 e2 => ?_⟩, q⟩
        by_cases hj : k = j
        · subst hj
          have hl : k < M.length := (List.getElem?_eq_some_iff.mp e).1
          rw [List.getElem?_set_self hl] at e2
          cases e2
          rw [h1] at e1; cases e1
          exact q
        · rw [List.getElem?_set_ne hj] at e2
          exact t.cell j b c' e1 e2
inductive SReps (K : PySem.W.Frag) (cA : Str → Option Addr) (F : Hp) (κ : List Addr) : List V → List S → Prop
  | nil : SReps K cA F κ [] []
  | cons {v : V} {s : S} {vs : List V} {ss : List S} : SRep K cA F κ v s → SReps K cA F κ vs ss → SReps K cA F κ (v :: vs) (s :: ss)
theorem SReps.ext {vs : List V} {ss : List S} (e : Ext F κ F' κ') (h : SReps K cA F κ vs ss) : SReps K cA F' κ' vs ss := by
  induction h with
  | nil => exact .nil
  | cons r _ ih => exact .cons (r.ext e) ih
theorem SReps.length {vs : List V} {ss : List S} (h : SReps K cA F κ vs ss) : vs.length = ss.length := by
  induction h with
  | nil => rfl
  | cons r _ ih => exact congrArg Nat.succ ih
theorem SReps.append {vs ws : List V} {ss ts : List S} (h : SReps K cA F κ vs ss) (h' : SReps K cA F κ ws ts) : SReps K cA F κ (vs ++ ws) (ss ++ ts) := by
  induction h with
  | nil => exact h'
  | cons r _ ih => exact .cons r ih
theorem SReps.of {vs : List V} {ds : List D} (h : Reps K cA F vs ds) : SReps K cA F κ vs (ds.map S.d) := by
  induction vs generalizing ds with
  | nil => cases h; exact .nil
  | cons v vs ih => cases h with | cons r t => exact .cons r (ih t)
theorem Stt.frzL : ∀ {ss : List S} {vs : List V} {ds : List D} {F : Hp} {M M' : Ms}, Stt K cA F H κ M → SReps K cA F κ vs ss → frzL ss M = some (ds, M') → ∃ F', Ext F κ F' κ ∧ Stt K cA F' H κ M' ∧ Reps K cA F' vs ds
  | [], vs, ds, F, M, M', t, r, h => by
    have e : [] = ds ∧ M = M' := by simpa [G.frzL] using h
    obtain ⟨rfl, rfl⟩ := e
    cases r
    exact ⟨F, .refl _ _, t, .nil⟩
  | s :: ss, vs, ds, F, M, M', t, r, h => by
    cases r with
    | cons r rr =>
      unfold G.frzL at h
      cases e : G.frz M s with
      | none => simp [e] at h
      | some p =>
        obtain ⟨d, M1⟩ := p
        simp only [e] at h
        cases e2 : G.frzL ss M1 with
        | none => simp [e2] at h
        | some p =>
          obtain ⟨ds', M2⟩ := p
          simp only [e2, Option.some.injEq, Prod.mk.injEq] at h
          obtain ⟨rfl, rfl⟩ := h
          obtain ⟨F1, x1, t1, r1⟩ := t.frz r e
          obtain ⟨F2, x2, t2, r2⟩ := Stt.frzL t1 (rr.ext x1) e2
          exact ⟨F2, x1.trans x2, t2, .cons (r1.mono x2.sub) r2⟩
end
/-- the frame's slots -/
structure EnvR (K : PySem.W.Frag) (cA : Str → Option Addr) (F : Hp) (κ : List Addr) (σ : L2.St) (env : Ev) : Prop where
  len : σ.length = env.length
  at_ : ∀ (i : Nat) (s : S), env[i]? = some (some s) → ∃ v, σ[i]? = some (some v) ∧ SRep K cA F κ v s
theorem EnvR.ext {K : PySem.W.Frag} {cA : Str → Option Addr} {F F' : Hp} {κ κ' : List Addr} {σ : L2.St} {env : Ev} (e : Ext F κ F' κ') (h : EnvR K cA F κ σ env) : EnvR K cA F' κ' σ env :=
  ⟨h.len, fun i s q => let ⟨v, a, b⟩ := h.at_ i s q; ⟨v, a, b.ext e⟩⟩
theorem EnvR.set {K : PySem.W.Frag} {cA : Str → Option Addr} {F : Hp} {κ : List Addr} {σ : L2.St} {env : Ev} (h : EnvR K cA F κ σ env) {i : Nat} {v : V} {s : S} (r : SRep K cA F κ v s) : EnvR K cA F κ (σ.set i (some v)) (env.set i (some s)) := by
  refine ⟨by simp [h.len], fun j t q => ?_⟩
  by_cases hj : i = j
  · subst hj
    have hl : i < env.length := by
      obtain ⟨hl, _⟩ := List.getElem?_eq_some_iff.mp q
      simpa using hl
    rw [List.getElem?_set_self hl] at q
    cases q
    exact ⟨v, List.getElem?_set_self (by rw [h.len]; exact hl), r⟩
  · rw [List.getElem?_set_ne hj] at q ⊢
    exact h.at_ j t q
theorem EnvR.unset {K : PySem.W.Frag} {cA : Str → Option Addr} {F : Hp} {κ : List Addr} {σ : L2.St} {env : Ev} (h : EnvR K cA F κ σ env) {i : Nat} {o : Option V} : EnvR K cA F κ (σ.set i o) (env.set i none) := by
  refine ⟨by simp [h.len], fun j t q => ?_⟩
  by_cases hj : i = j
  · subst hj
    obtain ⟨hl, _⟩ := List.getElem?_eq_some_iff.mp q
    rw [List.getElem?_set_self (by simpa using hl)] at q
    cases q
  · rw [List.getElem?_set_ne hj] at q ⊢
    exact h.at_ j t q
end G
/-! Judgements: an expression's meaning as a function of the slots and the cells; rules. -/
namespace G
open PySem L2
/-- where code runs -/
structure Wd where
  P : Program
  w : World
  K : PySem.W.Frag
  mg : Str → Option Value
  base : Heap
  cA : Str → Option Addr
  k : Nat
  cls : ∀ c C, cA c = some C → Cls K C
/-- a scope, and the names of it whose cells are the frame's own -/
structure Scp extends Scope where
  fs : Str → Bool
structure Gd (W : Wd) (N : List Str) (sc : Scp) (X : Cx) : Prop where
  prog : X.prog = W.P
  w : X.w = W.w
  K : X.K = W.K
  mg : X.mg = W.mg
  base : X.base = W.base
  eN : X.N = N
  eS : X.env.scope = sc.toScope
  calm : X.calm = true
  hr : Room W.k X.A
  nd : N.Nodup
  fn : ∀ x, sc.fs x = true → X.fn x = true
  xe : X.xe = fun _ _ => False
abbrev RepW (W : Wd) := Rep W.K W.cA
abbrev SttW (W : Wd) := Stt W.K W.cA
def tEv (W : Wd) (f : EF) : TE := fun σ H Q => ∃ env M s M' F κ, f env M = some (s, M') ∧ Stt W.K W.cA F H κ M ∧ EnvR W.K W.cA F κ σ env ∧
  ∀ F' κ' H' v, Ext F κ F' κ' → Stt W.K W.cA F' H' κ' M' → SRep W.K W.cA F' κ' v s → Q v H'
def tTv (W : Wd) (f : TF) : TT := fun σ H Q => ∃ env M b M' F κ, f env M = some (b, M') ∧ Stt W.K W.cA F H κ M ∧ EnvR W.K W.cA F κ σ env ∧
  ∀ F' κ' H', Ext F κ F' κ' → Stt W.K W.cA F' H' κ' M' → Q b H'
def tAv (W : Wd) (f : AF) : TA := fun σ H Q => ∃ env M ss M' F κ, f env M = some (ss, M') ∧ Stt W.K W.cA F H κ M ∧ EnvR W.K W.cA F κ σ env ∧
  ∀ F' κ' H' vs, Ext F κ F' κ' → Stt W.K W.cA F' H' κ' M' → SReps W.K W.cA F' κ' vs ss → Q vs H'
def OutQ (W : Wd) (F : Hp) (κ : List Addr) (σ : L2.St) (D : Ends) : Out → Prop
  | .nx e M => ∀ F' κ' H' σ', Ext F κ F' κ' → Stt W.K W.cA F' H' κ' M → EnvR W.K W.cA F' κ' σ' e → D.nx σ' H'
  | .rt s M => ∀ F' κ' H' v, Ext F κ F' κ' → Stt W.K W.cA F' H' κ' M → SRep W.K W.cA F' κ' v s → D.rt v H'
  | .bk e M => ∀ F' κ' H' σ', Ext F κ F' κ' → Stt W.K W.cA F' H' κ' M → EnvR W.K W.cA F' κ' σ' e → D.bk σ' H'
  | .ct e M => ∀ F' κ' H' σ', Ext F κ F' κ' → Stt W.K W.cA F' H' κ' M → EnvR W.K W.cA F' κ' σ' e → D.ct σ' H'
theorem OutQ.ext {W : Wd} {F F' : Hp} {κ κ' : List Addr} {σ σ' : L2.St} {D : Ends} {o : Out} (x : Ext F κ F' κ') (h : OutQ W F κ σ D o) : OutQ W F' κ' σ' D o := by
  cases o with
  | nx e M => exact fun F2 κ2 H2 σ2 x2 => h F2 κ2 H2 σ2 (x.trans x2)
  | rt s M => exact fun F2 κ2 H2 v x2 => h F2 κ2 H2 v (x.trans x2)
  | bk e M => exact fun F2 κ2 H2 σ2 x2 => h F2 κ2 H2 σ2 (x.trans x2)
  | ct e M => exact fun F2 κ2 H2 σ2 x2 => h F2 κ2 H2 σ2 (x.trans x2)
def tSv (W : Wd) (f : SF) : TS := fun D σ H => ∃ env M o F κ, f env M = some o ∧ Stt W.K W.cA F H κ M ∧ EnvR W.K W.cA F κ σ env ∧ OutQ W F κ σ D o
section
variable (W : Wd) (N : List Str) (sc : Scp)
def DE (e : Expr) (f : EF) : Prop := ∀ X, Gd W N sc X → PE X e (tEv W f)
def DT (e : Expr) (f : TF) : Prop := ∀ X, Gd W N sc X → PT X e (tTv W f)
def DA (es : List Expr) (f : AF) : Prop := ∀ X, Gd W N sc X → PA X es (tAv W f)
def DS (st : Stmt) (f : SF) : Prop := ∀ X, Gd W N sc X → PS X st (tSv W f)
def DB (st : List Stmt) (f : SF) : Prop := ∀ X, Gd W N sc X → PSs X st (tSv W f)
end
/-! ### readings are monotone -/
theorem PE.imp {X : Cx} {e : Expr} {t t' : TE} (h : PE X e t) (i : ∀ σ H Q, t' σ H Q → t σ H Q) : PE X e t' := ⟨fun pins s σ H Q I hw => h.run pins s σ H Q I (i σ H Q hw)⟩
theorem PT.imp {X : Cx} {e : Expr} {t t' : TT} (h : PT X e t) (i : ∀ σ H Q, t' σ H Q → t σ H Q) : PT X e t' := ⟨fun pins s σ H Q I hw => h.run pins s σ H Q I (i σ H Q hw)⟩
theorem PA.imp {X : Cx} {e : List Expr} {t t' : TA} (h : PA X e t) (i : ∀ σ H Q, t' σ H Q → t σ H Q) : PA X e t' := ⟨fun pos pins s σ H Q I hw => h.run pos pins s σ H Q I (i σ H Q hw)⟩
theorem PS.imp {X : Cx} {e : Stmt} {t t' : TS} (h : PS X e t) (i : ∀ D σ H, t' D σ H → t D σ H) : PS X e t' := ⟨fun pins s σ H D I hw => h.run pins s σ H D I (i D σ H hw)⟩
theorem PSs.imp {X : Cx} {e : List Stmt} {t t' : TS} (h : PSs X e t) (i : ∀ D σ H, t' D σ H → t D σ H) : PSs X e t' := ⟨fun pins s σ H D I hw => h.run pins s σ H D I (i D σ H hw)⟩
/-- any rule of an operator, chosen by the values -/
def rStar (X : Cx) (f : Value → Value → Sem Value) : R2 := fun x y H Q => ∃ r, OpR X f r ∧ r x y H Q
theorem OpR.star (X : Cx) (f : Value → Value → Sem Value) : OpR X f (rStar X f) := fun pins s σ H x y v u Q I rx ry ⟨r, h, q⟩ => h pins s σ H x y v u Q I rx ry q
def uStar (X : Cx) (f : Value → Sem Value) : V → Hp → VK → Prop := fun x H Q => ∃ r, UnR X f r ∧ r x H Q
theorem UnR.star (X : Cx) (f : Value → Sem Value) : UnR X f (uStar X f) := fun pins s σ H x v Q I rx ⟨r, h, q⟩ => h pins s σ H x v Q I rx q
def cStar (X : Cx) (f : Value) : List V → Hp → VK → Prop := fun xs H Q => ∃ r, CallR X f r ∧ r xs H Q
theorem CallR.star (X : Cx) (f : Value) : CallR X f (cStar X f) := fun pins s σ H xs us Q I rx ⟨r, h, q⟩ => h pins s σ H xs us Q I rx q
def ixStar (X : Cx) : R2 := fun x y H Q => ∃ r, IxR X r ∧ r x y H Q
theorem IxR.star (X : Cx) : IxR X (ixStar X) := fun va sl pins s σ H x y v u Q I rx ry ⟨r, h, q⟩ => h va sl pins s σ H x y v u Q I rx ry q
def slStar (X : Cx) : V → Option Int → Option Int → Hp → VK → Prop := fun x lo hi H Q => ∃ r, SlR X r ∧ r x lo hi H Q
theorem SlR.star (X : Cx) : SlR X (slStar X) := fun pins s σ H x v vl vu lo hi sl Q I rx hs pl pu ⟨r, h, q⟩ => h pins s σ H x v vl vu lo hi sl Q I rx hs pl pu q
def mtStar (X : Cx) (id : String) : V → List V → Hp → VK → Prop := fun x xs H Q => ∃ r, MtR X id r ∧ r x xs H Q
theorem MtR.star (X : Cx) (id : String) : MtR X id (mtStar X id) := fun pins s σ H x xs v us Q I rx rs ⟨r, h, q⟩ => h pins s σ H x xs v us Q I rx rs q
/-! ### operators by data -/
/-- f on the data x, y is g x y -/
def OpS (f : Value → Value → Sem Value) (g : D → D → Option D) : Prop :=
  ∀ (W : Wd) (N : List Str) (sc : Scp) (X : Cx), Gd W N sc X → ∀ (F H : Hp) (x y : V) (dx dy r : D), SubH F H → VRep W.K W.cA F H x dx → VRep W.K W.cA F H y dy → g dx dy = some r →
    ∀ Q : VK, (∀ v F' H', New F H F' H' → Rep W.K W.cA F' v r → Q v H') → rStar X f x y H Q
def UnS (f : Value → Sem Value) (g : D → Option D) : Prop :=
  ∀ (W : Wd) (N : List Str) (sc : Scp) (X : Cx), Gd W N sc X → ∀ (F H : Hp) (x : V) (dx r : D), SubH F H → VRep W.K W.cA F H x dx → g dx = some r →
    ∀ Q : VK, (∀ v F' H', New F H F' H' → Rep W.K W.cA F' v r → Q v H') → uStar X f x H Q
inductive VReps (K : PySem.W.Frag) (cA : Str → Option Addr) (F H : Hp) : List V → List D → Prop
  | nil : VReps K cA F H [] []
  | cons {v : V} {d : D} {vs : List V} {ds : List D} : VRep K cA F H v d → VReps K cA F H vs ds → VReps K cA F H (v :: vs) (d :: ds)
def CallS (f : Value) (g : List D → Option D) : Prop :=
  ∀ (W : Wd) (N : List Str) (sc : Scp) (X : Cx), Gd W N sc X → ∀ (F H : Hp) (xs : List V) (dxs : List D) (r : D), SubH F H → VReps W.K W.cA F H xs dxs → g dxs = some r →
    ∀ Q : VK, (∀ v F' H', New F H F' H' → Rep W.K W.cA F' v r → Q v H') → cStar X f xs H Q
def views (M : Ms) : List S → Option (List D)
  | [] => some []
  | s :: r => match view M s with
    | some d => match views M r with
      | some ds => some (d :: ds)
      | none => none
    | none => none
theorem Stt.views {K : PySem.W.Frag} {cA : Str → Option Addr} {F H : Hp} {κ : List Addr} {M : Ms} (t : Stt K cA F H κ M) : ∀ {ss : List S} {vs : List V} {ds : List D}, SReps K cA F κ vs ss → views M ss = some ds → VReps K cA F H vs ds
  | [], _, _, h, e => by
    cases h
    have e' : [] = _ := Option.some.inj e
    subst e'
    exact .nil
  | s :: ss, _, ds, h, e => by
    cases h with
    | cons r rr =>
      unfold G.views at e
      cases e1 : G.view M s with
      | none => simp [e1] at e
      | some d =>
        simp only [e1] at e
        cases e2 : G.views M ss with
        | none => simp [e2] at e
        | some ds' =>
          simp only [e2, Option.some.injEq] at e
          subst e
          exact .cons (t.view r e1) (Stt.views t rr e2)
/-! ### the meanings -/
def eVar (i : Nat) : EF := fun env M => match env[i]? with
  | some (some s) => some (s, M)
  | _ => none
def eCst (d : D) : EF := fun _ M => some (.d d, M)
def eBin (g : D → D → Option D) (fa fb : EF) : EF := fun env M => match fa env M with
  | some (a, M1) => match fb env M1 with
    | some (b, M2) => match view M2 a with
      | some x => match view M2 b with
        | some y => match g x y with
          | some r => some (.d r, M2)
          | none => none
        | none => none
      | none => none
    | none => none
  | none => none
def eUn (g : D → Option D) (fa : EF) : EF := fun env M => match fa env M with
  | some (a, M1) => match view M1 a with
    | some x => match g x with
      | some r => some (.d r, M1)
      | none => none
    | none => none
  | none => none
def eCall (g : List D → Option D) (fa : AF) : EF := fun env M => match fa env M with
  | some (ss, M1) => match views M1 ss with
    | some xs => match g xs with
      | some r => some (.d r, M1)
      | none => none
    | none => none
  | none => none
/-- a value as a truth -/
def eTest (f : EF) : TF := fun env M => match f env M with
  | some (.d (.bl b), M1) => some (b, M1)
  | _ => none
def tAnd_ (f g : TF) : TF := fun env M => match f env M with
  | some (true, M1) => g env M1
  | r => r
def tOr_ (f g : TF) : TF := fun env M => match f env M with
  | some (false, M1) => g env M1
  | r => r
def tNot_ (f : TF) : TF := fun env M => match f env M with
  | some (b, M1) => some (!b, M1)
  | none => none
def eOf (f : TF) : EF := fun env M => match f env M with
  | some (b, M1) => some (.d (.bl b), M1)
  | none => none
def eAnd (f g : EF) : EF := fun env M => match f env M with
  | some (.d (.bl true), M1) => g env M1
  | some (.d (.bl false), M1) => some (.d (.bl false), M1)
  | _ => none
def eOr (f g : EF) : EF := fun env M => match f env M with
  | some (.d (.bl true), M1) => some (.d (.bl true), M1)
  | some (.d (.bl false), M1) => g env M1
  | _ => none
def eIf (c : TF) (f g : EF) : EF := fun env M => match c env M with
  | some (true, M1) => f env M1
  | some (false, M1) => g env M1
  | none => none
def aNil : AF := fun _ M => some ([], M)
def aCons (f : EF) (g : AF) : AF := fun env M => match f env M with
  | some (s, M1) => match g env M1 with
    | some (ss, M2) => some (s :: ss, M2)
    | none => none
  | none => none
/-- the items of a list or a tuple -/
def itemsOf : D → Option (List D)
  | .lst ds => some ds
  | .tup ds => some ds
  | .scr ns => some (ns.map D.int)
  | _ => none
def aStar (f : EF) (g : AF) : AF := fun env M => match f env M with
  | some (s, M1) => match view M1 s with
    | some d => match itemsOf d with
      | some xs => match g env M1 with
        | some (ss, M2) => some (xs.map S.d ++ ss, M2)
        | none => none
      | none => none
    | none => none
  | none => none
def eTup (f : AF) : EF := fun env M => match f env M with
  | some (ss, M1) => match frzL ss M1 with
    | some (ds, M2) => if ds.length ≤ sizeLine then some (.d (.tup ds), M2) else none
    | none => none
  | none => none
def eLst (f : AF) : EF := fun env M => match f env M with
  | some (ss, M1) => match frzL ss M1 with
    | some (ds, M2) => if ds.length ≤ sizeLine then some (.d (.lst ds), M2) else none
    | none => none
  | none => none
section
variable {W : Wd} {N : List Str} {sc : Scp} {a b c : Expr} {fa fb fc : EF} {es : List Expr} {ga : AF} {pos : Pos}
theorem de_var {i : Nat} {x : Str} (hN : N[i]? = some x) (hv : Vis sc.toScope x) (h1 : (x == ("__debug__" : Str)) = false) (h2 : (x == ("__classdict__" : Str)) = false) : DE W N sc (.Name x pos) (eVar i) := by
  intro X gd
  refine PE.imp (pe_var (i := i) (by rw [gd.eN]; exact hN) (by rw [gd.eS]; exact hv) h1 h2) fun σ H Q h => ?_
  obtain ⟨env, M, s, M', F, κ, e, t, er, k⟩ := h
  unfold eVar at e
  split at e
  · rename_i s' hs
    simp only [Option.some.injEq, Prod.mk.injEq] at e
    obtain ⟨rfl, rfl⟩ := e
    obtain ⟨v, hv, r⟩ := er.at_ i _ hs
    exact ⟨v, hv, k F κ H v (.refl _ _) t r⟩
  · cases e
theorem tEv_cst {d : D} {v : V} (r : ∀ F, Rep W.K W.cA F v d) : ∀ σ H Q, tEv W (eCst d) σ H Q → tC v σ H Q := by
  intro σ H Q h
  obtain ⟨env, M, s, M', F, κ, e, t, er, k⟩ := h
  simp only [eCst, Option.some.injEq, Prod.mk.injEq] at e
  obtain ⟨rfl, rfl⟩ := e
  exact k F κ H v (.refl _ _) t (r F)
theorem de_int {i : Int} {j : Nat} : DE W N sc (.Constant (.int i) j pos) (eCst (.int i)) := fun X gd => PE.imp pe_int (tEv_cst fun F => .int i)
theorem de_bool {i : Bool} {j : Nat} : DE W N sc (.Constant (.bool i) j pos) (eCst (.bl i)) := fun X gd => PE.imp pe_bl (tEv_cst fun F => .bl i)
theorem de_none {j : Nat} : DE W N sc (.Constant .none j pos) (eCst .non) := fun X gd => PE.imp pe_non (tEv_cst fun F => .non)
theorem de_str {x : Str} {j : Nat} : DE W N sc (.Constant (.str x) j pos) (eCst (.str x)) := fun X gd => PE.imp pe_str (tEv_cst fun F => .str x)
theorem de_glob {x : Str} {d : D} {v : V} {u : Value} (hg : sc.names.lookup x = some .globalImplicit) (hm : W.mg x = some u) (r : RelV v u) (rd : ∀ F, Rep W.K W.cA F v d) (h1 : (x == ("__debug__" : Str)) = false) : DE W N sc (.Name x pos) (eCst d) :=
  fun X gd => PE.imp (pe_glob (v := v) (u := u) (by unfold Gl Env.kindOf; rw [gd.eS]; exact hg) (by rw [gd.mg]; exact hm) r h1) (tEv_cst rd)
theorem eBin_some {g : D → D → Option D} {env : Ev} {M M' : Ms} {s : S} (h : eBin g fa fb env M = some (s, M')) : ∃ sa M1 sb x y r, fa env M = some (sa, M1) ∧ fb env M1 = some (sb, M') ∧ view M' sa = some x ∧ view M' sb = some y ∧ g x y = some r ∧ s = .d r := by
  unfold eBin at h
  split at h
  rotate_left
  · cases h
  rename_i sa M1 e1
  split at h
  rotate_left
  · cases h
  rename_i sb M2 e2
  split at h
  rotate_left
  · cases h
  rename_i x e3
  split at h
  rotate_left
  · cases h
  rename_i y e4
  split at h
  rotate_left
  · cases h
  rename_i r e5
  simp only [Option.some.injEq, Prod.mk.injEq] at h
  obtain ⟨rfl, rfl⟩ := h
  exact ⟨sa, M1, sb, x, y, r, e1, e2, e3, e4, e5, rfl⟩
theorem tEv_bin {X : Cx} (gd : Gd W N sc X) {f : Value → Value → Sem Value} {g : D → D → Option D} (ho : OpS f g) : ∀ σ H Q, tEv W (eBin g fa fb) σ H Q → tOp (rStar X f) (tEv W fa) (tEv W fb) σ H Q := by
  intro σ H Q h
  obtain ⟨env, M, s, M', F, κ, e, t, er, k⟩ := h
  obtain ⟨sa, M1, sb, x, y, r, e1, e2, e3, e4, e5, rfl⟩ := eBin_some e
  refine ⟨env, M, sa, M1, F, κ, e1, t, er, fun F1 κ1 H1 va x1 t1 ra => ?_⟩
  refine ⟨env, M1, sb, M', F1, κ1, e2, t1, er.ext x1, fun F2 κ2 H2 vb x2 t2 rb => ?_⟩
  refine ho W N sc X gd F2 H2 va vb x y r t2.sub (t2.view (ra.ext x2) e3) (t2.view rb e4) e5 Q fun v F3 H3 n rv => ?_
  exact k F3 κ2 H3 v ((x1.trans x2).trans (.sub' n.fr)) (t2.new n) rv
theorem de_bin {op : Operator} {g : D → D → Option D} (ho : OpS (binaryOp op) g) (ha : DE W N sc a fa) (hb : DE W N sc b fb) : DE W N sc (.BinOp a op b pos) (eBin g fa fb) :=
  fun X gd => PE.imp (pe_op (OpR.star X _) (ha X gd) (hb X gd)) (tEv_bin gd ho)
theorem de_cmp {op : CmpOp} {g : D → D → Option D} (ho : OpS (compareOp op) g) (hm : behindInMarks op b = false) (ha : DE W N sc a fa) (hb : DE W N sc b fb) : DE W N sc (.Compare a [op] [b] pos) (eBin g fa fb) :=
  fun X gd => PE.imp (pe_cmpR (OpR.star X _) (ha X gd) (hb X gd) hm) (tEv_bin gd ho)
theorem eTest_some {f : EF} {env : Ev} {M M' : Ms} {k : Bool} (h : eTest f env M = some (k, M')) : f env M = some (.d (.bl k), M') := by
  unfold eTest at h
  split at h
  · rename_i e
    simp only [Option.some.injEq, Prod.mk.injEq] at h
    obtain ⟨rfl, rfl⟩ := h
    exact e
  · cases h
theorem tTv_test {f : EF} : ∀ σ H Q, tTv W (eTest f) σ H Q → tEv W f σ H (fun x H' => ∃ k, x = .bl k ∧ Q k H') := by
  intro σ H Q h
  obtain ⟨env, M, k0, M', F, κ, e, t, er, k⟩ := h
  refine ⟨env, M, _, M', F, κ, eTest_some e, t, er, fun F1 κ1 H1 v x1 t1 r => ?_⟩
  have r : Rep W.K W.cA F1 v (.bl k0) := r
  cases r
  exact ⟨k0, rfl, k F1 κ1 H1 x1 t1⟩
theorem dt_cmp {op : CmpOp} {g : D → D → Option D} (ho : OpS (compareOp op) g) (hm : behindInMarks op b = false) (ha : DE W N sc a fa) (hb : DE W N sc b fb) : DT W N sc (.Compare a [op] [b] pos) (eTest (eBin g fa fb)) := by
  intro X gd
  refine PT.imp (pt_cmpR (OpR.star X _) (ha X gd) (hb X gd) hm) fun σ H Q h => ?_
  exact tEv_bin gd ho σ H _ (tTv_test σ H Q h)
theorem dt_val (he : ∀ env whole, isTrue a env whole = (do let v ← whole; standAt a.pos; holding [v] (truthy v))) (ha : DE W N sc a fa) : DT W N sc a (eTest fa) :=
  fun X gd => PT.imp (pt_val (ha X gd) (he X.env)) fun σ H Q h => tTv_test σ H Q h
theorem de_un {op : UnaryOp} {g : D → Option D} (ho : UnS (unaryOp op) g) (ha : DE W N sc a fa) : DE W N sc (.UnaryOp op a pos) (eUn g fa) := by
  intro X gd
  refine PE.imp (pe_un (UnR.star X _) (ha X gd)) fun σ H Q h => ?_
  obtain ⟨env, M, s, M', F, κ, e, t, er, k⟩ := h
  unfold eUn at e
  split at e
  rotate_left
  · cases e
  rename_i sa M1 e1
  split at e
  rotate_left
  · cases e
  rename_i x e3
  split at e
  rotate_left
  · cases e
  rename_i r e5
  simp only [Option.some.injEq, Prod.mk.injEq] at e
  obtain ⟨rfl, rfl⟩ := e
  refine ⟨env, M, sa, M1, F, κ, e1, t, er, fun F1 κ1 H1 va x1 t1 ra => ?_⟩
  refine ho W N sc X gd F1 H1 va x r t1.sub (t1.view ra e3) e5 Q fun v F3 H3 n rv => ?_
  exact k F3 κ1 H3 v (x1.trans (.sub' n.fr)) (t1.new n) rv
/-! ### and, or, not, if -/
theorem dw_and1 {f : TF} (h : DT W N sc a f) : ∀ X, Gd W N sc X → PW X (.BoolOp .And [a] pos) (tTv W f) := fun X gd => pw_and1 (h X gd)
theorem dw_or1 {f : TF} (h : DT W N sc a f) : ∀ X, Gd W N sc X → PW X (.BoolOp .Or [a] pos) (tTv W f) := fun X gd => pw_or1 (h X gd)
theorem PW.imp {X : Cx} {e : Expr} {t t' : TT} (h : PW X e t) (i : ∀ σ H Q, t' σ H Q → t σ H Q) : PW X e t' := ⟨fun wh pins s σ H Q I hw => h.run wh pins s σ H Q I (i σ H Q hw)⟩
theorem dw_and {f g : TF} {rest : List Expr} (ha : DT W N sc a f) (hb : ∀ X, Gd W N sc X → PW X (.BoolOp .And (b :: rest) pos) (tTv W g)) : ∀ X, Gd W N sc X → PW X (.BoolOp .And (a :: b :: rest) pos) (tTv W (tAnd_ f g)) := by
  intro X gd
  refine PW.imp (pw_and (ha X gd) (hb X gd)) fun σ H Q h => ?_
  obtain ⟨env, M, k0, M', F, κ, e, t, er, k⟩ := h
  unfold tAnd_ at e
  cases e1 : f env M with
  | none => simp [e1] at e
  | some p =>
    obtain ⟨c, M1⟩ := p
    refine ⟨env, M, c, M1, F, κ, e1, t, er, fun F1 κ1 H1 x1 t1 => ?_⟩
    cases c with
    | true =>
      simp only [e1] at e
      exact iteT ⟨env, M1, k0, M', F1, κ1, e, t1, er.ext x1, fun F2 κ2 H2 x2 => k F2 κ2 H2 (x1.trans x2)⟩
    | false =>
      simp only [e1, Option.some.injEq, Prod.mk.injEq] at e
      obtain ⟨rfl, rfl⟩ := e
      exact iteF (k F1 κ1 H1 x1 t1)
theorem dw_or {f g : TF} {rest : List Expr} (ha : DT W N sc a f) (hb : ∀ X, Gd W N sc X → PW X (.BoolOp .Or (b :: rest) pos) (tTv W g)) : ∀ X, Gd W N sc X → PW X (.BoolOp .Or (a :: b :: rest) pos) (tTv W (tOr_ f g)) := by
  intro X gd
  refine PW.imp (pw_or (ha X gd) (hb X gd)) fun σ H Q h => ?_
  obtain ⟨env, M, k0, M', F, κ, e, t, er, k⟩ := h
  unfold tOr_ at e
  cases e1 : f env M with
  | none => simp [e1] at e
  | some p =>
    obtain ⟨c, M1⟩ := p
    refine ⟨env, M, c, M1, F, κ, e1, t, er, fun F1 κ1 H1 x1 t1 => ?_⟩
    cases c with
    | false =>
      simp only [e1] at e
      exact iteF ⟨env, M1, k0, M', F1, κ1, e, t1, er.ext x1, fun F2 κ2 H2 x2 => k F2 κ2 H2 (x1.trans x2)⟩
    | true =>
      simp only [e1, Option.some.injEq, Prod.mk.injEq] at e
      obtain ⟨rfl, rfl⟩ := e
      exact iteT (k F1 κ1 H1 x1 t1)
theorem dt_not {f : TF} (ha : DT W N sc a f) : DT W N sc (.UnaryOp .Not a pos) (tNot_ f) := by
  intro X gd
  refine PT.imp (pt_not (ha X gd)) fun σ H Q h => ?_
  obtain ⟨env, M, k0, M', F, κ, e, t, er, k⟩ := h
  unfold tNot_ at e
  split at e
  rotate_left
  · cases e
  rename_i b M1 e1
  simp only [Option.some.injEq, Prod.mk.injEq] at e
  obtain ⟨rfl, rfl⟩ := e
  exact ⟨env, M, b, M1, F, κ, e1, t, er, fun F1 κ1 H1 x1 t1 => k F1 κ1 H1 x1 t1⟩
theorem de_one {op : BoolOp} (h : DE W N sc a fa) : DE W N sc (.BoolOp op [a] pos) fa := fun X gd => pe_one (h X gd)
theorem de_and {rest : List Expr} (ha : DE W N sc a fa) (hb : DE W N sc (.BoolOp .And (b :: rest) pos) fb) : DE W N sc (.BoolOp .And (a :: b :: rest) pos) (eAnd fa fb) := by
  intro X gd
  refine PE.imp (pe_and (ha X gd) (hb X gd)) fun σ H Q h => ?_
  obtain ⟨env, M, s, M', F, κ, e, t, er, k⟩ := h
  unfold eAnd at e
  split at e
  · rename_i M1 e1
    refine ⟨env, M, _, M1, F, κ, e1, t, er, fun F1 κ1 H1 v x1 t1 r => ?_⟩
    have r : Rep W.K W.cA F1 v (.bl true) := r
    cases r
    exact ⟨true, rfl, iteT ⟨env, M1, s, M', F1, κ1, e, t1, er.ext x1, fun F2 κ2 H2 v x2 => k F2 κ2 H2 v (x1.trans x2)⟩⟩
  · rename_i M1 e1
    simp only [Option.some.injEq, Prod.mk.injEq] at e
    obtain ⟨rfl, rfl⟩ := e
    refine ⟨env, M, _, M1, F, κ, e1, t, er, fun F1 κ1 H1 v x1 t1 r => ?_⟩
    have r : Rep W.K W.cA F1 v (.bl false) := r
    cases r
    exact ⟨false, rfl, iteF (k F1 κ1 H1 _ x1 t1 (show Rep W.K W.cA F1 (.bl false) (.bl false) from .bl false))⟩
  · cases e
theorem de_or {rest : List Expr} (ha : DE W N sc a fa) (hb : DE W N sc (.BoolOp .Or (b :: rest) pos) fb) : DE W N sc (.BoolOp .Or (a :: b :: rest) pos) (eOr fa fb) := by
  intro X gd
  refine PE.imp (pe_or (ha X gd) (hb X gd)) fun σ H Q h => ?_
  obtain ⟨env, M, s, M', F, κ, e, t, er, k⟩ := h
  unfold eOr at e
  split at e
  · rename_i M1 e1
    simp only [Option.some.injEq, Prod.mk.injEq] at e
    obtain ⟨rfl, rfl⟩ := e
    refine ⟨env, M, _, M1, F, κ, e1, t, er, fun F1 κ1 H1 v x1 t1 r => ?_⟩
    have r : Rep W.K W.cA F1 v (.bl true) := r
    cases r
    exact ⟨true, rfl, iteT (k F1 κ1 H1 _ x1 t1 (show Rep W.K W.cA F1 (.bl true) (.bl true) from .bl true))⟩
  · rename_i M1 e1
    refine ⟨env, M, _, M1, F, κ, e1, t, er, fun F1 κ1 H1 v x1 t1 r => ?_⟩
    have r : Rep W.K W.cA F1 v (.bl false) := r
    cases r
    exact ⟨false, rfl, iteF ⟨env, M1, s, M', F1, κ1, e, t1, er.ext x1, fun F2 κ2 H2 v x2 => k F2 κ2 H2 v (x1.trans x2)⟩⟩
  · cases e
theorem de_not (ha : DE W N sc a fa) : DE W N sc (.UnaryOp .Not a pos) (eOf (tNot_ (eTest fa))) := by
  intro X gd
  refine PE.imp (pe_not (ha X gd)) fun σ H Q h => ?_
  obtain ⟨env, M, s, M', F, κ, e, t, er, k⟩ := h
  unfold eOf tNot_ at e
  cases e1 : eTest fa env M with
  | none => simp [e1] at e
  | some p =>
    obtain ⟨b, M1⟩ := p
    simp only [e1, Option.some.injEq, Prod.mk.injEq] at e
    obtain ⟨rfl, rfl⟩ := e
    refine ⟨env, M, _, M1, F, κ, eTest_some e1, t, er, fun F1 κ1 H1 v x1 t1 r => ?_⟩
    have r : Rep W.K W.cA F1 v (.bl b) := r
    cases r
    exact ⟨b, rfl, k F1 κ1 H1 _ x1 t1 (show Rep W.K W.cA F1 (.bl (!b)) (.bl (!b)) from .bl _)⟩
theorem de_if {f : TF} (hc : DT W N sc c f) (ha : DE W N sc a fa) (hb : DE W N sc b fb) : DE W N sc (.IfExp c a b pos) (eIf f fa fb) := by
  intro X gd
  refine PE.imp (pe_ifExp (hc X gd) (ha X gd) (hb X gd)) fun σ H Q h => ?_
  obtain ⟨env, M, s, M', F, κ, e, t, er, k⟩ := h
  unfold eIf at e
  split at e
  · rename_i M1 e1
    exact ⟨env, M, _, M1, F, κ, e1, t, er, fun F1 κ1 H1 x1 t1 => iteT ⟨env, M1, s, M', F1, κ1, e, t1, er.ext x1, fun F2 κ2 H2 v x2 => k F2 κ2 H2 v (x1.trans x2)⟩⟩
  · rename_i M1 e1
    exact ⟨env, M, _, M1, F, κ, e1, t, er, fun F1 κ1 H1 x1 t1 => iteF ⟨env, M1, s, M', F1, κ1, e, t1, er.ext x1, fun F2 κ2 H2 v x2 => k F2 κ2 H2 v (x1.trans x2)⟩⟩
  · cases e
/-! ### lists of expressions -/
def notStar : Expr → Bool
  | .Starred _ _ => false
  | _ => true
theorem star_cons {e : Expr} (h : notStar e = true) (es : List Expr) (env : Env) : starEach (e :: es) env = (false, eval e env) :: starEach es env := by
  cases e <;> first | rfl | cases h
theorem da_nil : DA W N sc [] aNil := by
  intro X gd
  refine PA.imp pa_nil fun σ H Q h => ?_
  obtain ⟨env, M, ss, M', F, κ, e, t, er, k⟩ := h
  simp only [aNil, Option.some.injEq, Prod.mk.injEq] at e
  obtain ⟨rfl, rfl⟩ := e
  exact k F κ H [] (.refl _ _) t .nil
theorem da_cons (hs : notStar a = true) (ha : DE W N sc a fa) (hr : DA W N sc es ga) : DA W N sc (a :: es) (aCons fa ga) := by
  intro X gd
  refine PA.imp (pa_cons (ha X gd) (hr X gd) (star_cons hs _ _)) fun σ H Q h => ?_
  obtain ⟨env, M, ss, M', F, κ, e, t, er, k⟩ := h
  unfold aCons at e
  split at e
  rotate_left
  · cases e
  rename_i s M1 e1
  split at e
  rotate_left
  · cases e
  rename_i ss' M2 e2
  simp only [Option.some.injEq, Prod.mk.injEq] at e
  obtain ⟨rfl, rfl⟩ := e
  refine ⟨env, M, s, M1, F, κ, e1, t, er, fun F1 κ1 H1 v x1 t1 r => ?_⟩
  refine ⟨env, M1, ss', M2, F1, κ1, e2, t1, er.ext x1, fun F2 κ2 H2 vs x2 t2 rs => ?_⟩
  exact k F2 κ2 H2 (v :: vs) (x1.trans x2) t2 (.cons (r.ext x2) rs)
theorem VRep.items {K : PySem.W.Frag} {cA : Str → Option Addr} {F H : Hp} {v : V} {d : D} {ds : List D} (hs : SubH F H) (h : VRep K cA F H v d) (e : itemsOf d = some ds) : ∃ a vs, v = .ref a ∧ (SqT K H a vs ∨ SqL K H a vs) ∧ Reps K cA F vs ds := by
  cases h with
  | rep r =>
    cases r with
    | tup q r => cases e; exact ⟨_, _, rfl, .inl (hs.sqT q), r⟩
    | lst q r => cases e; exact ⟨_, _, rfl, .inr (.inl (.inl (hs.lst q))), r⟩
    | scr q => cases e; exact ⟨_, _, rfl, .inr (hs.sqL q), .ints⟩
    | _ => cases e
  | lst q r => cases e; exact ⟨_, _, rfl, .inr (.inl (.inl q)), r⟩
  | dct q _ _ => cases e
  | obj _ q _ _ _ => cases e
theorem da_star {p : Pos} (ha : DE W N sc a fa) (hr : DA W N sc es ga) : DA W N sc (.Starred a p :: es) (aStar fa ga) := by
  intro X gd
  refine PA.imp (StX.pa_star (ha X gd) (hr X gd)) fun σ H Q h => ?_
  obtain ⟨env, M, ss, M', F, κ, e, t, er, k⟩ := h
  unfold aStar at e
  split at e
  rotate_left
  · cases e
  rename_i s M1 e1
  split at e
  rotate_left
  · cases e
  rename_i d e2
  split at e
  rotate_left
  · cases e
  rename_i xs e3
  split at e
  rotate_left
  · cases e
  rename_i ss' M2 e4
  simp only [Option.some.injEq, Prod.mk.injEq] at e
  obtain ⟨rfl, rfl⟩ := e
  refine ⟨env, M, s, M1, F, κ, e1, t, er, fun F1 κ1 H1 v x1 t1 r => ?_⟩
  obtain ⟨p, vs, rfl, hq, rs⟩ := (t1.view r e2).items t1.sub e3
  refine ⟨p, vs, rfl, by rw [gd.K]; exact hq, ?_⟩
  refine ⟨env, M1, ss', M2, F1, κ1, e4, t1, er.ext x1, fun F2 κ2 H2 ws x2 t2 rw' => ?_⟩
  exact k F2 κ2 H2 (vs ++ ws) (x1.trans x2) t2 (SReps.append (SReps.of (rs.mono x2.sub)) rw')
theorem de_tup {j : Nat} (h : DA W N sc es ga) : DE W N sc (.Tuple es j pos) (eTup ga) := by
  intro X gd
  refine PE.imp (pe_tup (h X gd)) fun σ H Q h => ?_
  obtain ⟨env, M, s, M', F, κ, e, t, er, k⟩ := h
  unfold eTup at e
  split at e
  rotate_left
  · cases e
  rename_i ss M1 e1
  split at e
  rotate_left
  · cases e
  rename_i ds M2 e2
  split at e
  rotate_left
  · cases e
  rename_i hz
  simp only [Option.some.injEq, Prod.mk.injEq] at e
  obtain ⟨rfl, rfl⟩ := e
  refine ⟨env, M, ss, M1, F, κ, e1, t, er, fun F1 κ1 H1 vs x1 t1 rs => ?_⟩
  obtain ⟨F2, x2, t2, r2⟩ := t1.frzL rs e2
  refine ⟨by rw [r2.length]; exact hz, fun p hp => ?_⟩
  have n := New.one (o := .tup vs) t2.sub hp
  exact k _ κ1 _ (.ref p) ((x1.trans x2).trans (.sub' n.fr)) (t2.new n) (show Rep W.K W.cA _ (.ref p) (.tup ds) from .tup (.inl (.inl upd_same)) (r2.mono n.fr))
theorem de_lst (h : DA W N sc es ga) : DE W N sc (.List es pos) (eLst ga) := by
  intro X gd
  refine PE.imp (pe_lst (h X gd)) fun σ H Q h => ?_
  obtain ⟨env, M, s, M', F, κ, e, t, er, k⟩ := h
  unfold eLst at e
  split at e
  rotate_left
  · cases e
  rename_i ss M1 e1
  split at e
  rotate_left
  · cases e
  rename_i ds M2 e2
  split at e
  rotate_left
  · cases e
  rename_i hz
  simp only [Option.some.injEq, Prod.mk.injEq] at e
  obtain ⟨rfl, rfl⟩ := e
  refine ⟨env, M, ss, M1, F, κ, e1, t, er, fun F1 κ1 H1 vs x1 t1 rs => ?_⟩
  obtain ⟨F2, x2, t2, r2⟩ := t1.frzL rs e2
  refine ⟨by rw [r2.length]; exact hz, fun p hp => ?_⟩
  have n := New.one (o := .lst vs) t2.sub hp
  exact k _ κ1 _ (.ref p) ((x1.trans x2).trans (.sub' n.fr)) (t2.new n) (show Rep W.K W.cA _ (.ref p) (.lst ds) from .lst upd_same (r2.mono n.fr))
end
end G
/-! Attributes, subscripts, slices, calls. -/
namespace G
open PySem L2
section
variable {W : Wd} {N : List Str} {sc : Scp} {a b c : Expr} {fa fb fc : EF} {es : List Expr} {ga : AF} {pos : Pos}
/-! ### attributes -/
def eAttr (x : Str) (fa : EF) : EF := fun env M => match fa env M with
  | some (s, M1) => match view M1 s with
    | some (.obj _ gs) => match gs.lookup x with
      | some d => some (.d d, M1)
      | none => none
    | _ => none
  | none => none
theorem lookup_rel {K : PySem.W.Frag} {cA : Str → Option Addr} {F : Hp} : ∀ {fs : List (Str × V)} {gs : List (Str × D)} {x : Str} {d : D}, fs.map (·.1) = gs.map (·.1) → Reps K cA F (fs.map (·.2)) (gs.map (·.2)) → gs.lookup x = some d → ∃ v, fs.lookup x = some v ∧ Rep K cA F v d
  | [], [], x, d, _, _, h => by simp at h
  | [], _ :: _, x, d, e, _, h => by simp at e
  | _ :: _, [], x, d, e, _, h => by simp at e
  | (f, v) :: fs, (g, d') :: gs, x, d, e, r, h => by
    simp only [List.map_cons, List.cons.injEq] at e
    obtain ⟨rfl, e⟩ := e
    cases r with
    | cons r rr =>
      rw [List.lookup_cons] at h ⊢
      cases hb : x == f with
      | true => simp only [hb, Option.some.injEq] at h; subst h; exact ⟨v, rfl, r⟩
      | false => simp only [hb] at h; exact lookup_rel e rr h
theorem lookup_mem : ∀ {gs : List (Str × D)} {x : Str} {d : D}, gs.lookup x = some d → x ∈ gs.map (·.1)
  | [], x, d, h => by simp at h
  | (g, d') :: gs, x, d, h => by
    rw [List.lookup_cons] at h
    cases hb : x == g with
    | true => rw [eq_of_beq hb]; exact List.mem_cons_self
    | false => simp only [hb] at h; exact List.mem_cons_of_mem _ (lookup_mem h)
theorem VRep.obj_ {K : PySem.W.Frag} {cA : Str → Option Addr} {F H : Hp} {v : V} {c : Str} {gs : List (Str × D)} (hs : SubH F H) (h : VRep K cA F H v (.obj c gs)) :
    ∃ a C dx fs, v = .ref a ∧ cA c = some C ∧ H a = some (.ins C dx fs) ∧ fs.map (·.1) = gs.map (·.1) ∧ Reps K cA F (fs.map (·.2)) (gs.map (·.2)) ∧ ∀ f ∈ gs.map (·.1), NoAttr K C f := by
  cases h with
  | rep r => cases r with | obj c a e r n => exact ⟨_, _, _, _, rfl, c, hs.ins a, e, r, n⟩
  | obj c a e r n => exact ⟨_, _, _, _, rfl, c, a, e, r, n⟩
def notSuper : Expr → Bool
  | .Call _ [] [] _ => false
  | _ => true
theorem attr_base {o : Expr} (h : notSuper o = true) (x : Str) (env : Env) : attributeBase o x env (eval o env) = eval o env := by
  unfold attributeBase
  split
  · cases h
  · rfl
theorem de_attr {x : Str} (hb : notSuper a = true) (ha : DE W N sc a fa) : DE W N sc (.Attribute a x pos) (eAttr x fa) := by
  intro X gd
  refine PE.imp (pe_fld (f := x) (ha X gd) (attr_base hb x X.env)) fun σ H Q h => ?_
  obtain ⟨env, M, s, M', F, κ, e, t, er, k⟩ := h
  unfold eAttr at e
  split at e
  rotate_left
  · cases e
  rename_i s' M1 e1
  split at e
  rotate_left
  · cases e
  rename_i c gs e2
  split at e
  rotate_left
  · cases e
  rename_i d e3
  simp only [Option.some.injEq, Prod.mk.injEq] at e
  obtain ⟨rfl, rfl⟩ := e
  refine ⟨env, M, s', M1, F, κ, e1, t, er, fun F1 κ1 H1 v x1 t1 r => ?_⟩
  obtain ⟨p, C, dx, fs, rfl, hc, hp, en, rs, na⟩ := (t1.view r e2).obj_ t1.sub
  obtain ⟨w, hw, rw'⟩ := lookup_rel en rs e3
  rw [gd.K]
  exact ⟨p, C, dx, fs, w, rfl, hp, W.cls c C hc, na x (lookup_mem e3), hw, k F1 κ1 H1 w x1 t1 rw'⟩
/-! ### subscripts -/
def notSl : Expr → Bool
  | .Slice _ _ _ _ => false
  | _ => true
theorem plain_ix {b : Expr} (h : notSl b = true) : PlainIx b := by
  intro o i
  cases b <;> first | rfl | cases h
def valD {κ : Type} [DecidableEq κ] (kvs : List (κ × D)) (k : κ) : Option D := (kvs.find? fun kv => decide (kv.1 = k)).map (·.2)
def putD {κ : Type} [DecidableEq κ] (kvs : List (κ × D)) (k : κ) (v : D) : List (κ × D) :=
  if (kvs.any fun kv => decide (kv.1 = k)) = true then kvs.map (fun kv => if kv.1 = k then (kv.1, v) else kv) else kvs ++ [(k, v)]
/-- a key of a dict -/
def keyD : D → Option Key
  | .int i => some (.inl i)
  | .str x => some (.inr x)
  | _ => none
theorem keyD_rep {K : PySem.W.Frag} {cA : Str → Option Addr} {F H : Hp} {v : V} {d : D} {k : Key} (h : VRep K cA F H v d) (e : keyD d = some k) : v = kV k := by
  cases d with
  | int i => cases e; cases h with | rep r => cases r; rfl
  | str i => cases e; cases h with | rep r => cases r; rfl
  | _ => cases e
theorem val_rep {K : PySem.W.Frag} {cA : Str → Option Addr} {F : Hp} {κ : Type} [DecidableEq κ] {k : κ} : ∀ {kvs : List (κ × V)} {kds : List (κ × D)}, kvs.map (·.1) = kds.map (·.1) → Reps K cA F (kvs.map (·.2)) (kds.map (·.2)) →
    (∀ d, valD kds k = some d → ∃ v, valV kvs k = some v ∧ Rep K cA F v d) ∧ (valD kds k = none → valV kvs k = none)
  | [], [], _, _ => ⟨fun d h => (nomatch (show (none : Option D) = some d from h)), fun _ => rfl⟩
  | [], _ :: _, e, _ => by simp at e
  | _ :: _, [], e, _ => by simp at e
  | (f, v) :: fs, (g, d') :: gs, e, r => by
    simp only [List.map_cons, List.cons.injEq] at e
    obtain ⟨rfl, e⟩ := e
    cases r with
    | cons r rr =>
      obtain ⟨h1, h2⟩ := val_rep (k := k) e rr
      by_cases hk : f = k
      · constructor
        · intro d hd
          simp only [valD, List.find?_cons, hk, decide_true, Option.map_some, Option.some.injEq] at hd
          subst hd
          exact ⟨v, valV_pos hk, r⟩
        · intro hd
          simp [valD, List.find?_cons, hk] at hd
      · have e1 : valD ((f, d') :: gs) k = valD gs k := by simp [valD, List.find?_cons, hk]
        rw [e1, valV_neg hk]
        exact ⟨h1, h2⟩
theorem put_rep {K : PySem.W.Frag} {cA : Str → Option Addr} {F : Hp} {κ : Type} [DecidableEq κ] {k : κ} {v : V} {d : D} {kvs : List (κ × V)} {kds : List (κ × D)} (e : kvs.map (·.1) = kds.map (·.1)) (r : Reps K cA F (kvs.map (·.2)) (kds.map (·.2))) (q : Rep K cA F v d) :
    (putK kvs k v).map (·.1) = (putD kds k d).map (·.1) ∧ Reps K cA F ((putK kvs k v).map (·.2)) ((putD kds k d).map (·.2)) := by
  have ha : (kvs.any fun kv => decide (kv.1 = k)) = (kds.any fun kv => decide (kv.1 = k)) := by
    have h1 : (kvs.any fun kv => decide (kv.1 = k)) = (kvs.map (·.1)).any fun x => decide (x = k) := by rw [List.any_map]; rfl
    have h2 : (kds.any fun kv => decide (kv.1 = k)) = (kds.map (·.1)).any fun x => decide (x = k) := by rw [List.any_map]; rfl
    rw [h1, h2, e]
  unfold putK putD
  rw [ha]
  split
  · rename_i hany
    clear ha hany
    induction kvs generalizing kds with
    | nil => cases kds with
      | nil => exact ⟨rfl, .nil⟩
      | cons _ _ => simp at e
    | cons p kvs ih => cases kds with
      | nil => simp at e
      | cons p' kds =>
        obtain ⟨f, x⟩ := p
        obtain ⟨g, y⟩ := p'
        simp only [List.map_cons, List.cons.injEq] at e
        obtain ⟨rfl, e⟩ := e
        cases r with
        | cons r rr =>
          obtain ⟨i1, i2⟩ := ih e rr
          by_cases hk : f = k
          · simp only [List.map_cons, hk, if_true]
            exact ⟨by rw [i1], .cons q i2⟩
          · simp only [List.map_cons, hk, if_false]
            exact ⟨by rw [i1], .cons r i2⟩
  · simp only [List.map_append, List.map_cons, List.map_nil]
    exact ⟨by rw [e], r.append (.cons q .nil)⟩
/-- d[i] -/
def dIdx : D → D → Option D
  | .lst ds, .int i => atI ds i
  | .tup ds, .int i => atI ds i
  | .scr ns, .int i => (atI ns i).map D.int
  | .str z, .int i => if z.length ≤ sizeLine then (atI z.cps.toList i).map fun c => .str ⟨#[c]⟩ else none
  | .dct kds, y => match keyD y with
    | some k => valD kds k
    | none => none
  | _, _ => none
theorem atI_rep {K : PySem.W.Frag} {cA : Str → Option Addr} {F : Hp} {vs : List V} {ds : List D} {i : Int} {d : D} (r : Reps K cA F vs ds) (h : atI ds i = some d) : ∃ v, atI vs i = some v ∧ Rep K cA F v d := by
  unfold atI at h ⊢
  rw [r.length]
  cases e : ixN ds.length i with
  | none => rw [e] at h; cases h
  | some j =>
    rw [e] at h
    exact r.get (d := d) h
theorem ix_dict {X : Cx} (hu : X.A.units + 1 < cLine) : IxR X (fun x y H Q => ∃ a v, x = .ref a ∧ DGet H a y (some v) ∧ Q v H) := by
  intro value slice pins s σ H x y v u Q I rx ry h hs
  obtain ⟨a, z, rfl, g, q⟩ := h
  cases rx
  exact PyProof.Rows.tail_any (dict_typeIs I g) PySem.F.slot_dict_getitem.lookup (d_getItem hu I g ry fun w' s3 I3 rw' => ⟨z, H, I3, rw', q⟩) hs
theorem Gd.hu {X : Cx} (gd : Gd W N sc X) : X.A.units + 1 < cLine := hu_of gd.hr
theorem VRep.dct0 {K : PySem.W.Frag} {cA : Str → Option Addr} {F H : Hp} {v : V} {kds : List (Key × D)} (hs : SubH F H) (h : VRep K cA F H v (.dct kds)) : ∃ a kvs, v = .ref a ∧ Rd H a (.dK kvs) ∧ kvs.map (·.1) = kds.map (·.1) ∧ Reps K cA F (kvs.map (·.2)) (kds.map (·.2)) := by
  cases h with
  | rep r => cases r with | dct q e r => exact ⟨_, _, rfl, hs.rd q, e, r⟩
  | dct q e r => exact ⟨_, _, rfl, .inl q, e, r⟩
theorem tOp_ix {X : Cx} (gd : Gd W N sc X) : ∀ σ H Q, tEv W (eBin dIdx fa fb) σ H Q → tOp (ixStar X) (tEv W fa) (tEv W fb) σ H Q := by
  intro σ H Q h
  obtain ⟨env, M, s, M', F, κ, e, t, er, k⟩ := h
  obtain ⟨sa, M1, sb, x, y, r, e1, e2, e3, e4, e5, rfl⟩ := eBin_some e
  refine ⟨env, M, sa, M1, F, κ, e1, t, er, fun F1 κ1 H1 va x1 t1 ra => ?_⟩
  refine ⟨env, M1, sb, M', F1, κ1, e2, t1, er.ext x1, fun F2 κ2 H2 vb x2 t2 rb => ?_⟩
  have vx := t2.view (ra.ext x2) e3
  have vy := t2.view rb e4
  have fin : ∀ w, Rep W.K W.cA F2 w r → Q w H2 := fun w rw' => k F2 κ2 H2 w (x1.trans x2) t2 rw'
  have dcase : ∀ kds, x = .dct kds → ixStar X va vb H2 Q := fun kds e => by
    subst e
    have e5 : (match keyD y with | some k => valD kds k | none => none) = some r := by
      cases y <;> exact e5
    split at e5
    rotate_left
    · cases e5
    rename_i kk ek
    obtain ⟨p, kvs, rfl, hq, en, rs⟩ := vx.dct0 t2.sub
    obtain ⟨w, hw, rw'⟩ := (val_rep en rs).1 r e5
    rw [keyD_rep vy ek]
    exact ⟨_, ix_dict gd.hu, p, w, rfl, by rw [← hw]; exact .inl ⟨kvs, kk, hq, rfl, rfl⟩, fin w rw'⟩
  have yint : ∀ i, y = .int i → vb = .int i := fun i e => by
    subst e
    cases vy with | rep q => cases q; rfl
  cases y with
  | int i =>
    have hy := yint i rfl
    subst hy
    cases x with
    | lst ds =>
      obtain ⟨p, vs, rfl, hq, rs⟩ := vx.items t2.sub rfl
      obtain ⟨w, hw, rw'⟩ := atI_rep rs (show atI ds i = some r from e5)
      rcases hq with hq | hq
      · exact ⟨_, ix_tup, p, vs, i, w, rfl, rfl, by rw [gd.K]; exact hq, hw, fin w rw'⟩
      · exact ⟨_, ix_list, p, vs, i, w, rfl, rfl, by rw [gd.K]; exact hq, hw, fin w rw'⟩
    | tup ds =>
      obtain ⟨p, vs, rfl, hq, rs⟩ := vx.items t2.sub rfl
      obtain ⟨w, hw, rw'⟩ := atI_rep rs (show atI ds i = some r from e5)
      rcases hq with hq | hq
      · exact ⟨_, ix_tup, p, vs, i, w, rfl, rfl, by rw [gd.K]; exact hq, hw, fin w rw'⟩
      · exact ⟨_, ix_list, p, vs, i, w, rfl, rfl, by rw [gd.K]; exact hq, hw, fin w rw'⟩
    | scr ns =>
      obtain ⟨p, vs, rfl, hq, rs⟩ := vx.items t2.sub rfl
      have e5 : (atI ns i).map D.int = some r := e5
      have e6 : atI (ns.map D.int) i = some r := by
        unfold atI at e5 ⊢
        rw [List.length_map]
        cases e : ixN ns.length i with
        | none => rw [e] at e5; cases e5
        | some j =>
          rw [e] at e5
          show (ns.map D.int)[j]? = some r
          rw [List.getElem?_map]
          exact e5
      obtain ⟨w, hw, rw'⟩ := atI_rep rs e6
      rcases hq with hq | hq
      · exact ⟨_, ix_tup, p, vs, i, w, rfl, rfl, by rw [gd.K]; exact hq, hw, fin w rw'⟩
      · exact ⟨_, ix_list, p, vs, i, w, rfl, rfl, by rw [gd.K]; exact hq, hw, fin w rw'⟩
    | str z =>
      have hx : va = .str z := by cases vx with | rep q => cases q; rfl
      subst hx
      have e5 : (if z.length ≤ sizeLine then (atI z.cps.toList i).map fun c => (D.str ⟨#[c]⟩) else none) = some r := e5
      split at e5
      rotate_left
      · cases e5
      rename_i hz
      cases e6 : atI z.cps.toList i with
      | none => rw [e6] at e5; cases e5
      | some c =>
        rw [e6] at e5
        have e7 : D.str ⟨#[c]⟩ = r := Option.some.inj e5
        subst e7
        exact ⟨_, ix_str, z, i, c, rfl, rfl, hz, e6, fin _ (.str _)⟩
    | dct kds => exact dcase kds rfl
    | _ => cases e5
  | _ =>
    cases x with
    | dct kds => exact dcase kds rfl
    | _ => cases e5
theorem de_idx (hs : notSl b = true) (ha : DE W N sc a fa) (hb : DE W N sc b fb) : DE W N sc (.Subscript a b pos) (eBin dIdx fa fb) :=
  fun X gd => PE.imp (pe_ix (IxR.star X) (ha X gd) (hb X gd) (plain_ix hs)) (tOp_ix gd)
/-! ### slices -/
abbrev OF := Ev → Ms → Option (Option Int × Ms)
def oNone : OF := fun _ M => some (none, M)
def oSome (f : EF) : OF := fun env M => match f env M with
  | some (s, M1) => match view M1 s with
    | some (.int i) => some (some i, M1)
    | _ => none
  | none => none
def tOv (W : Wd) (f : OF) : TO := fun σ H Q => ∃ env M o M' F κ, f env M = some (o, M') ∧ Stt W.K W.cA F H κ M ∧ EnvR W.K W.cA F κ σ env ∧
  ∀ F' κ' H', Ext F κ F' κ' → Stt W.K W.cA F' H' κ' M' → Q o H'
def DO (W : Wd) (N : List Str) (sc : Scp) (e : Option Expr) (f : OF) : Prop := ∀ X, Gd W N sc X → PO X e (tOv W f)
theorem PO.imp {X : Cx} {e : Option Expr} {t t' : TO} (h : PO X e t) (i : ∀ σ H Q, t' σ H Q → t σ H Q) : PO X e t' := ⟨fun pins s σ H Q I hw => h.run pins s σ H Q I (i σ H Q hw)⟩
theorem do_none : DO W N sc none oNone := by
  intro X gd
  refine PO.imp po_none fun σ H Q h => ?_
  obtain ⟨env, M, o, M', F, κ, e, t, er, k⟩ := h
  simp only [oNone, Option.some.injEq, Prod.mk.injEq] at e
  obtain ⟨rfl, rfl⟩ := e
  exact k F κ H (.refl _ _) t
theorem do_some (ha : DE W N sc a fa) : DO W N sc (some a) (oSome fa) := by
  intro X gd
  refine PO.imp (po_some (ha X gd)) fun σ H Q h => ?_
  obtain ⟨env, M, o, M', F, κ, e, t, er, k⟩ := h
  unfold oSome at e
  split at e
  rotate_left
  · cases e
  rename_i s M1 e1
  split at e
  rotate_left
  · cases e
  rename_i i e2
  simp only [Option.some.injEq, Prod.mk.injEq] at e
  obtain ⟨rfl, rfl⟩ := e
  refine ⟨env, M, s, M1, F, κ, e1, t, er, fun F1 κ1 H1 v x1 t1 r => ?_⟩
  have q := t1.view r e2
  cases q with | rep q => cases q; exact ⟨i, rfl, k F1 κ1 H1 x1 t1⟩
def cutD (xs : List D) (lo hi : Option Int) : List D := (xs.drop (HT.sIx xs.length 0 lo)).take (HT.sIx xs.length xs.length hi - HT.sIx xs.length 0 lo)
theorem cut_rep {K : PySem.W.Frag} {cA : Str → Option Addr} {F : Hp} {vs : List V} {ds : List D} (lo hi : Option Int) (r : Reps K cA F vs ds) : Reps K cA F (cutV vs lo hi) (cutD ds lo hi) := by
  unfold cutV cutD
  rw [r.length]
  exact (r.drop _).take _
def dSlice : D → Option Int → Option Int → Option D
  | .lst ds, lo, hi => some (.lst (cutD ds lo hi))
  | .tup ds, lo, hi => some (.tup (cutD ds lo hi))
  | _, _, _ => none
def eSlice (fa : EF) (fl fh : OF) : EF := fun env M => match fa env M with
  | some (s, M1) => match fl env M1 with
    | some (lo, M2) => match fh env M2 with
      | some (hi, M3) => match view M3 s with
        | some d => match dSlice d lo hi with
          | some r => some (.d r, M3)
          | none => none
        | none => none
      | none => none
    | none => none
  | none => none
end
end G
/-! Slices, calls of built-ins, of defs, of classes, of methods. -/
namespace G
open PySem L2
section
variable {K : PySem.W.Frag} {cA : Str → Option Addr} {F H : Hp} {v : V}
theorem VRep.lst_ {ds : List D} (hs : SubH F H) (h : VRep K cA F H v (.lst ds)) : ∃ a vs, v = .ref a ∧ H a = some (.lst vs) ∧ Reps K cA F vs ds := by
  cases h with
  | rep r => cases r with | lst q r => exact ⟨_, _, rfl, hs.lst q, r⟩
  | lst q r => exact ⟨_, _, rfl, q, r⟩
theorem VRep.tup_ {ds : List D} (hs : SubH F H) (h : VRep K cA F H v (.tup ds)) : ∃ a vs, v = .ref a ∧ SqT K H a vs ∧ Reps K cA F vs ds := by
  cases h with
  | rep r => cases r with | tup q r => exact ⟨_, _, rfl, hs.sqT q, r⟩
theorem VRep.tupF {ds : List D} (h : VRep K cA F H v (.tup ds)) : Rep K cA F v (.tup ds) := by
  cases h with
  | rep r => exact r
theorem VRep.scr_ {ns : List Int} (hs : SubH F H) (h : VRep K cA F H v (.scr ns)) : ∃ a, v = .ref a ∧ SqL K H a (ns.map V.int) := by
  cases h with
  | rep r => cases r with | scr q => exact ⟨_, rfl, hs.sqL q⟩
theorem VRep.int_ {i : Int} (h : VRep K cA F H v (.int i)) : v = .int i := by cases h with | rep r => cases r; rfl
theorem VRep.bl_ {i : Bool} (h : VRep K cA F H v (.bl i)) : v = .bl i := by cases h with | rep r => cases r; rfl
theorem VRep.str_ {i : Str} (h : VRep K cA F H v (.str i)) : v = .str i := by cases h with | rep r => cases r; rfl
theorem VRep.non_ (h : VRep K cA F H v .non) : v = .non := by cases h with | rep r => cases r; rfl
end
section
variable {W : Wd} {N : List Str} {sc : Scp} {a b c : Expr} {fa fb fc : EF} {es : List Expr} {ga : AF} {pos : Pos}
theorem de_slice {lo hi : Option Expr} {fl fh : OF} {p2 : Pos} (ha : DE W N sc a fa) (hl : DO W N sc lo fl) (hh : DO W N sc hi fh) : DE W N sc (.Subscript a (.Slice lo hi none p2) pos) (eSlice fa fl fh) := by
  intro X gd
  refine PE.imp (pe_slice (SlR.star X) (ha X gd) (hl X gd) (hh X gd)) fun σ H Q h => ?_
  obtain ⟨env, M, s, M', F, κ, e, t, er, k⟩ := h
  unfold eSlice at e
  split at e
  rotate_left
  · cases e
  rename_i sa M1 e1
  split at e
  rotate_left
  · cases e
  rename_i l M2 e2
  split at e
  rotate_left
  · cases e
  rename_i u M3 e3
  split at e
  rotate_left
  · cases e
  rename_i d e4
  split at e
  rotate_left
  · cases e
  rename_i r e5
  simp only [Option.some.injEq, Prod.mk.injEq] at e
  obtain ⟨rfl, rfl⟩ := e
  refine ⟨env, M, sa, M1, F, κ, e1, t, er, fun F1 κ1 H1 va x1 t1 ra => ?_⟩
  refine ⟨env, M1, l, M2, F1, κ1, e2, t1, er.ext x1, fun F2 κ2 H2 x2 t2 => ?_⟩
  refine ⟨env, M2, u, M3, F2, κ2, e3, t2, er.ext (x1.trans x2), fun F3 κ3 H3 x3 t3 => ?_⟩
  have vx := t3.view (ra.ext (x2.trans x3)) e4
  have xx := (x1.trans x2).trans x3
  cases d with
  | lst ds =>
    obtain ⟨p, vs, rfl, hq, rs⟩ := vx.lst_ t3.sub
    have e5 : D.lst (cutD ds l u) = r := Option.some.inj e5
    subst e5
    refine ⟨_, sl_list, p, vs, rfl, .of hq, fun p' hp => ?_⟩
    have n := New.one (o := .lst (cutV vs l u)) t3.sub hp
    exact k _ κ3 _ (.ref p') (xx.trans (.sub' n.fr)) (t3.new n) (show Rep W.K W.cA _ (.ref p') (.lst _) from .lst upd_same ((cut_rep l u rs).mono n.fr))
  | tup ds =>
    have rx := vx.tupF
    obtain ⟨p, vs, rfl, hq, rs⟩ := vx.tup_ t3.sub
    have e5 : D.tup (cutD ds l u) = r := Option.some.inj e5
    subst e5
    refine ⟨_, sl_tupA, p, vs, rfl, by rw [gd.K]; exact hq, fun hw => ?_, fun _ p' hp => ?_⟩
    · have hd : cutD ds l u = ds := by
        unfold cutD
        rw [← rs.length, hw.1, hw.2, List.drop_zero, Nat.sub_zero]
        exact List.take_of_length_le (by rw [rs.length]; exact Nat.le_refl _)
      rw [hd] at k
      exact k _ κ3 _ (.ref p) xx t3 rx
    · have n := New.one (o := .tup (cutV vs l u)) t3.sub hp
      exact k _ κ3 _ (.ref p') (xx.trans (.sub' n.fr)) (t3.new n) (show Rep W.K W.cA _ (.ref p') (.tup _) from .tup (.inl (.inl upd_same)) ((cut_rep l u rs).mono n.fr))
  | _ => cases e5
/-- xs[::-1] -/
def dRev : D → Option D
  | .lst ds => some (.lst ds.reverse)
  | _ => none
theorem de_rev {j : Nat} {p1 p2 p3 : Pos} (ha : DE W N sc a fa) : DE W N sc (.Subscript a (.Slice none none (some (.UnaryOp .USub (.Constant (.int 1) j p1) p2)) p3) pos) (eUn dRev fa) := by
  intro X gd
  refine PE.imp (pe_revL (ha X gd)) fun σ H Q h => ?_
  obtain ⟨env, M, s, M', F, κ, e, t, er, k⟩ := h
  unfold eUn at e
  split at e
  rotate_left
  · cases e
  rename_i sa M1 e1
  split at e
  rotate_left
  · cases e
  rename_i x e3
  split at e
  rotate_left
  · cases e
  rename_i r e5
  simp only [Option.some.injEq, Prod.mk.injEq] at e
  obtain ⟨rfl, rfl⟩ := e
  refine ⟨env, M, sa, M1, F, κ, e1, t, er, fun F1 κ1 H1 va x1 t1 ra => ?_⟩
  cases x with
  | lst ds =>
    obtain ⟨p, vs, rfl, hq, rs⟩ := (t1.view ra e3).lst_ t1.sub
    have e5 : D.lst ds.reverse = r := Option.some.inj e5
    subst e5
    refine ⟨p, vs, rfl, .of hq, fun p' hp => ?_⟩
    have n := New.one (o := .lst vs.reverse) t1.sub hp
    exact k _ κ1 _ (.ref p') (x1.trans (.sub' n.fr)) (t1.new n) (show Rep W.K W.cA _ (.ref p') (.lst _) from .lst upd_same (rs.reverse.mono n.fr))
  | _ => cases e5
/-! ### calls -/
theorem plain_args {es : List Expr} (h : es.all notStar = true) (pos : Pos) (env : Env) : (backTo pos (starEach es env)).any (·.1) = false := by
  induction es with
  | nil => rfl
  | cons e es ih =>
    simp only [List.all_cons, Bool.and_eq_true] at h
    rw [star_cons h.1]
    have := ih h.2
    simp only [backTo, List.map_cons, List.any_cons, Bool.false_or] at this ⊢
    exact this
theorem eCall_some {g : List D → Option D} {env : Ev} {M M' : Ms} {s : S} (h : eCall g ga env M = some (s, M')) : ∃ ss xs r, ga env M = some (ss, M') ∧ views M' ss = some xs ∧ g xs = some r ∧ s = .d r := by
  unfold eCall at h
  split at h
  rotate_left
  · cases h
  rename_i ss M1 e1
  split at h
  rotate_left
  · cases h
  rename_i xs e2
  split at h
  rotate_left
  · cases h
  rename_i r e3
  simp only [Option.some.injEq, Prod.mk.injEq] at h
  obtain ⟨rfl, rfl⟩ := h
  exact ⟨ss, xs, r, e1, e2, e3, rfl⟩
theorem tEv_call {X : Cx} (gd : Gd W N sc X) {f : Value} {g : List D → Option D} (ho : CallS f g) : ∀ σ H Q, tEv W (eCall g ga) σ H Q → tCB (cStar X f) (tAv W ga) σ H Q := by
  intro σ H Q h
  obtain ⟨env, M, s, M', F, κ, e, t, er, k⟩ := h
  obtain ⟨ss, xs, r, e1, e2, e3, rfl⟩ := eCall_some e
  refine ⟨env, M, ss, M', F, κ, e1, t, er, fun F1 κ1 H1 vs x1 t1 rs => ?_⟩
  refine ho W N sc X gd F1 H1 vs xs r t1.sub (t1.views rs e2) e3 Q fun v F3 H3 n rv => ?_
  exact k F3 κ1 H3 v (x1.trans (.sub' n.fr)) (t1.new n) rv
def Free (W : Wd) (sc : Scp) (x : Str) : Prop := sc.names.lookup x = some .globalImplicit ∧ W.mg x = none
theorem Gd.gl {X : Cx} (gd : Gd W N sc X) {x : Str} (h : sc.names.lookup x = some .globalImplicit) : Gl X x := by unfold Gl Env.kindOf; rw [gd.eS]; exact h
theorem de_callB {id : String} {x : Str} {p : Pos} {g : List D → Option D} (hc : CallS (.builtin id) g) (hf : Free W sc x) (hv : bootBuiltins x = some (.builtin id)) (hst : notStar a = true) (hss : es.all notStar = true) (ha : DA W N sc (a :: es) ga)
    (hn : x ≠ "__name__") (hdb : (x == ("__debug__" : Str)) = false) : DE W N sc (.Call (.Name x p) (a :: es) [] pos) (eCall g ga) := fun X gd =>
  PE.imp (pe_callB (CallR.star X _) (gd.gl hf.1) (by rw [gd.mg]; exact hf.2) hv (ha X gd) hn hdb (star_cons hst _ _) (plain_args hss _ _)) (tEv_call gd hc)
theorem de_callT {T : String} {x : Str} {p : Pos} {g : List D → Option D} (hc : CallS (.type T) g) (hf : Free W sc x) (hv : bootBuiltins x = some (.type T)) (hst : notStar a = true) (hss : es.all notStar = true) (ha : DA W N sc (a :: es) ga)
    (hn : x ≠ "__name__") (hdb : (x == ("__debug__" : Str)) = false) : DE W N sc (.Call (.Name x p) (a :: es) [] pos) (eCall g ga) := fun X gd =>
  PE.imp (pe_callTy (CallR.star X _) (gd.gl hf.1) (by rw [gd.mg]; exact hf.2) hv (ha X gd) hn hdb (star_cons hst _ _) (plain_args hss _ _)) (tEv_call gd hc)
/-- what a def that means f promises -/
def spG (W : Wd) (f : FSem) : Sp := fun vs H Q _ => ∃ F κ M ss s M', SReps W.K W.cA F κ vs ss ∧ f ss M = some (s, M') ∧ Stt W.K W.cA F H κ M ∧
  ∀ F' κ' H' v, Ext F κ F' κ' → Stt W.K W.cA F' H' κ' M' → SRep W.K W.cA F' κ' v s → Q v H'
/-- x is a def of n parameters that means f -/
def FnHas (W : Wd) (x : Str) (f : FSem) : Prop := ∃ fa fd ps, W.mg x = some (.ref fa) ∧ PySem.W.keepIn W.K (.ref fa) = true ∧ Binds W.K fd ps [] ∧ FnOk W.P W.w W.K W.mg W.base CX0 W.k fa fd ps (spG W f)
def eFn (f : FSem) (ga : AF) : EF := fun env M => match ga env M with
  | some (ss, M1) => f ss M1
  | none => none
theorem tEv_fn {f : FSem} : ∀ σ H Q, tEv W (eFn f ga) σ H Q → tCall (spG W f) [] E0 (tAv W ga) σ H Q := by
  intro σ H Q h
  obtain ⟨env, M, s, M', F, κ, e, t, er, k⟩ := h
  unfold eFn at e
  split at e
  rotate_left
  · cases e
  rename_i ss M1 e1
  refine ⟨env, M, ss, M1, F, κ, e1, t, er, fun F1 κ1 H1 vs x1 t1 rs => ?_⟩
  show spG W f (vs ++ []) H1 Q E0
  rw [List.append_nil]
  exact ⟨F1, κ1, M1, ss, s, M', rs, e, t1, fun F2 κ2 H2 v x2 => k F2 κ2 H2 v (x1.trans x2)⟩
theorem Gd.fnok {X : Cx} (gd : Gd W N sc X) {f : Addr} {fd : FuncData} {ps : List Str} {sp : Sp} {j : Nat} (h : FnOk W.P W.w W.K W.mg W.base CX0 j f fd ps sp) : FnOk X.prog X.w X.K X.mg X.base CX0 j f fd ps sp := by
  rw [gd.prog, gd.w, gd.K, gd.mg, gd.base]; exact h
theorem de_fn {x : Str} {p : Pos} {f : FSem} (hf : FnHas W x f) (hg : sc.names.lookup x = some .globalImplicit) (hst : notStar a = true) (hss : es.all notStar = true) (ha : DA W N sc (a :: es) ga) (hdb : (x == ("__debug__" : Str)) = false) :
    DE W N sc (.Call (.Name x p) (a :: es) [] pos) (eFn f ga) := by
  intro X gd
  obtain ⟨fa, fd, ps, hm, hk, hb, ok⟩ := hf
  exact PE.imp (pe_call (gd.fnok ok) gd.hr (gd.gl hg) (by rw [gd.mg]; exact hm) (by rw [gd.K]; exact hk) (by rw [gd.K]; exact hb) .nil pass0 (ha X gd) hdb (star_cons hst _ _) (plain_args hss _ _)) tEv_fn
theorem de_fn0 {x : Str} {p : Pos} {f : FSem} (hf : FnHas W x f) (hg : sc.names.lookup x = some .globalImplicit) (hdb : (x == ("__debug__" : Str)) = false) : DE W N sc (.Call (.Name x p) [] [] pos) (eFn f aNil) := by
  intro X gd
  obtain ⟨fa, fd, ps, hm, hk, hb, ok⟩ := hf
  refine PE.imp (pe_call0 (gd.fnok ok) gd.hr (gd.gl hg) (by rw [gd.mg]; exact hm) (by rw [gd.K]; exact hk) (by rw [gd.K]; exact hb) .nil pass0 hdb) fun σ H Q h => ?_
  have q := tEv_fn σ H Q h
  obtain ⟨env, M, ss, M', F, κ, e, t, er, k⟩ := q
  simp only [aNil, Option.some.injEq, Prod.mk.injEq] at e
  obtain ⟨rfl, rfl⟩ := e
  exact k F κ H [] (.refl _ _) t .nil
/-! ### a class: a new instance in a cell -/
def MkHas (W : Wd) (x : Str) (f : FSem) : Prop := ∃ C fa fd ps j, W.cA x = some C ∧ W.mg x = some (.ref C) ∧ Mk W.K C fa ∧ Binds W.K fd ps [] ∧ FnOk W.P W.w W.K W.mg W.base CX0 j fa fd ps (spG W f) ∧ j + 1 = W.k
/-- the new one in a cell behind all others -/
def eMake (x : Str) (f : FSem) (ga : AF) : EF := fun env M => match ga env M with
  | some (ss, M1) => match f (.hd M1.length :: ss) (M1 ++ [.obj x []]) with
    | some (.d .non, M2) => some (.hd M1.length, M2)
    | _ => none
  | none => none
theorem CellR.some_ {K : PySem.W.Frag} {cA : Str → Option Addr} {F H : Hp} {a : Addr} {c : Cell} (h : CellR K cA F H a c) (hn : ∀ d, c ≠ .frz d) : ∃ o, H a = some o := by
  cases c with
  | lst ds => obtain ⟨_, vs, q, _⟩ := h; exact ⟨_, q⟩
  | dct ds => obtain ⟨_, vs, q, _⟩ := h; exact ⟨_, q⟩
  | obj c gs => obtain ⟨_, C, dx, fs, _, q, _⟩ := h; exact ⟨_, q⟩
  | frz d => exact absurd rfl (hn d)
theorem Stt.push {K : PySem.W.Frag} {cA : Str → Option Addr} {F H : Hp} {κ : List Addr} {M : Ms} (t : Stt K cA F H κ M) {p : Addr} {c : Cell} (hp : H p = none) {H' : Hp} (n : New F H F H') (hc : CellR K cA F H' p c) (hn : ∀ d, c ≠ .frz d) : Stt K cA F H' (κ ++ [p]) (M ++ [c]) := by
  have fresh : p ∉ κ := fun hm => by
    obtain ⟨o, e⟩ := t.tr p hm
    rw [hp] at e; cases e
  refine ⟨n.sub, ?_, by simp [t.len], fun a ha => ?_, fun k a c' e1 e2 => ?_⟩
  · rw [List.nodup_append]
    exact ⟨t.nd, by simp, fun a ha b hb => by
      have : b = p := by simpa using hb
      subst this
      rintro rfl
      exact fresh ha⟩
  · rcases List.mem_append.mp ha with ha | ha
    · obtain ⟨o, e⟩ := t.tr a ha
      exact ⟨o, n.same _ _ e⟩
    · have : a = p := by simpa using ha
      subst this
      exact hc.some_ hn
  · by_cases hk : k < κ.length
    · rw [List.getElem?_append_left hk] at e1
      rw [List.getElem?_append_left (by rw [← t.len]; exact hk)] at e2
      exact (t.cell k a c' e1 e2).new n
    · rw [List.getElem?_append_right (by omega)] at e1
      rw [List.getElem?_append_right (by rw [← t.len]; omega)] at e2
      have h1 : k - κ.length = 0 := by
        obtain ⟨hl, _⟩ := List.getElem?_eq_some_iff.mp e1
        simpa using hl
      rw [h1] at e1
      rw [← t.len, h1] at e2
      simp at e1 e2
      subst e1 e2
      exact hc
end
end G
/-! Making instances, methods; statements. -/
namespace G
open PySem L2
section
variable {W : Wd} {N : List Str} {sc : Scp} {a b c : Expr} {fa fb fc : EF} {es : List Expr} {ga : AF} {pos : Pos}
theorem tEv_make {x : Str} {f : FSem} {C : Addr} (hC : W.cA x = some C) : ∀ σ H Q, tEv W (eMake x f ga) σ H Q → tMake C (spG W f) [] E0 (tAv W ga) σ H Q := by
  intro σ H Q h
  obtain ⟨env, M, s, M', F, κ, e, t, er, k⟩ := h
  unfold eMake at e
  split at e
  rotate_left
  · cases e
  rename_i ss M1 e1
  split at e
  rotate_left
  · cases e
  rename_i M2 e2
  simp only [Option.some.injEq, Prod.mk.injEq] at e
  obtain ⟨rfl, rfl⟩ := e
  refine ⟨env, M, ss, M1, F, κ, e1, t, er, fun F1 κ1 H1 vs x1 t1 rs => fun x dx hx hdx hne => ?_⟩
  rw [List.append_nil]
  have n : New F1 H1 F1 (upd (upd H1 dx (.own x)) x (.ins C dx [])) := (New.oneH t1.sub hdx).trans (New.oneH (t1.sub.transS (Sub.upd hdx)) (by rw [upd_ne hne.symm]; exact hx))
  have hk : (κ1 ++ [x])[M1.length]? = some x := by rw [← t1.len]; simp
  have t2 : Stt W.K W.cA F1 _ (κ1 ++ [x]) (M1 ++ [.obj _ []]) := t1.push hx n (c := .obj _ []) ⟨t1.sub.none hx, C, dx, [], hC, upd_same, rfl, .nil, by simp⟩ (fun d z => by cases z)
  have xe : Ext F1 κ1 F1 (κ1 ++ [x]) := ⟨.refl _, [x], rfl⟩
  refine ⟨F1, κ1 ++ [x], _, _, _, M2, .cons (show SRep W.K W.cA F1 (κ1 ++ [x]) (.ref x) (.hd M1.length) from ⟨x, hk, rfl⟩) (rs.ext xe), e2, t2, fun F' κ' H' v xx tt r => ?_⟩
  have r : Rep W.K W.cA F' v .non := r
  cases r
  refine ⟨rfl, k F' κ' H' _ ((x1.trans xe).trans xx) tt ?_⟩
  exact (show SRep W.K W.cA F1 (κ1 ++ [x]) (.ref x) (.hd M1.length) from ⟨x, hk, rfl⟩).ext xx
theorem de_make {x : Str} {p : Pos} {f : FSem} (hf : MkHas W x f) (hg : sc.names.lookup x = some .globalImplicit) (hst : notStar a = true) (hss : es.all notStar = true) (ha : DA W N sc (a :: es) ga) (hdb : (x == ("__debug__" : Str)) = false) :
    DE W N sc (.Call (.Name x p) (a :: es) [] pos) (eMake x f ga) := by
  intro X gd
  obtain ⟨C, fa, fd, ps, j, hC, hm, mk, hb, ok, hj⟩ := hf
  exact PE.imp (pe_make (by rw [gd.K]; exact mk) (gd.fnok ok) (by rw [hj]; exact gd.hr) (gd.gl hg) (by rw [gd.mg]; exact hm) (by rw [gd.K]; exact hb) .nil pass0 (ha X gd) hdb (star_cons hst _ _) (plain_args hss _ _)) (tEv_make hC)
theorem de_make0 {x : Str} {p : Pos} {f : FSem} (hf : MkHas W x f) (hg : sc.names.lookup x = some .globalImplicit) (hdb : (x == ("__debug__" : Str)) = false) : DE W N sc (.Call (.Name x p) [] [] pos) (eMake x f aNil) := by
  intro X gd
  obtain ⟨C, fa, fd, ps, j, hC, hm, mk, hb, ok, hj⟩ := hf
  refine PE.imp (pe_make0 (by rw [gd.K]; exact mk) (gd.fnok ok) (by rw [hj]; exact gd.hr) (gd.gl hg) (by rw [gd.mg]; exact hm) (by rw [gd.K]; exact hb) .nil pass0 hdb) fun σ H Q h => ?_
  have q := tEv_make hC σ H Q h
  obtain ⟨env, M, ss, M', F, κ, e, t, er, k⟩ := q
  simp only [aNil, Option.some.injEq, Prod.mk.injEq] at e
  obtain ⟨rfl, rfl⟩ := e
  exact k F κ H [] (.refl _ _) t .nil
/-- .. and changed no more: a tree; what was put into cells meanwhile is dropped -/
def eDrop (fa : EF) : EF := fun env M => match fa env M with
  | some (s, M1) => match frz M1 s with
    | some (d, M2) => if M.length ≤ M2.length then some (.d d, M2.take M.length) else none
    | none => none
  | none => none
theorem Stt.take {K : PySem.W.Frag} {cA : Str → Option Addr} {F H : Hp} {κ : List Addr} {M : Ms} (t : Stt K cA F H κ M) (n : Nat) : Stt K cA F H (κ.take n) (M.take n) := by
  refine ⟨t.sub, t.nd.sublist (List.take_sublist _ _), by simp [t.len], fun a ha => t.tr a (List.mem_of_mem_take ha), fun k a c e1 e2 => ?_⟩
  rw [List.getElem?_take] at e1 e2
  split at e1
  · rename_i hk
    rw [if_pos hk] at e2
    exact t.cell k a c e1 e2
  · cases e1
theorem de_drop (ha : DE W N sc a fa) : DE W N sc a (eDrop fa) := by
  intro X gd
  refine PE.imp (ha X gd) fun σ H Q h => ?_
  obtain ⟨env, M, s, M', F, κ, e, t, er, k⟩ := h
  unfold eDrop at e
  split at e
  rotate_left
  · cases e
  rename_i s1 M1 e1
  split at e
  rotate_left
  · cases e
  rename_i d M2 e2
  split at e
  rotate_left
  · cases e
  rename_i hl
  simp only [Option.some.injEq, Prod.mk.injEq] at e
  obtain ⟨rfl, rfl⟩ := e
  refine ⟨env, M, s1, M1, F, κ, e1, t, er, fun F1 κ1 H1 v x1 t1 r => ?_⟩
  obtain ⟨F2, x2, t2, r2⟩ := t1.frz r e2
  have xx := x1.trans x2
  obtain ⟨hs, m, hm⟩ := xx
  have e : κ1.take M.length = κ := by rw [hm, ← t.len]; simp
  refine k F2 (κ1.take M.length) H1 v ⟨hs, [], by rw [e]; simp⟩ (t2.take _) r2
/-! ### methods -/
def MethHas (W : Wd) (c m : Str) (f : FSem) : Prop := ∀ C, W.cA c = some C → ∃ fa fd ps, Meth W.K C m fa ∧ Binds W.K fd ps [] ∧ FnOk W.P W.w W.K W.mg W.base CX0 W.k fa fd ps (spG W f)
/-- mt: what the method m of each class means -/
def eMeth (mt : Str → Option FSem) (m : Str) (fa : EF) (ga : AF) : EF := fun env M => match fa env M with
  | some (s, M1) => match view M1 s with
    | some (.obj c gs) => match mt c with
      | some f => match gs.lookup m with
        | some _ => none
        | none => match ga env M1 with
          | some (ss, M2) => f (s :: ss) M2
          | none => none
      | none => none
    | _ => none
  | none => none
theorem meth_eq {o : Expr} {m : Str} {apos : Pos} {args : List Expr} (hb : notSuper o = true) (hst : args.all notStar = true) (hl : args.length < 30) (hline : (apos.endLine == pos.line) = true) (env : Env) :
    eval (.Call (.Attribute o m apos) args [] pos) env = (do
      let ov ← eval o env
      standAt apos.atName
      let (f, first) ← holding [ov] (getMethod ov m (do return (← importBound o env).getD true))
      callWith pos f first (backTo pos (starEach args env)) (backToKw pos (keywordEach [] env))) := by
  have hall : (backTo pos (starEach args env)).all (fun x => !x.1) = true := by
    have := plain_args hst pos env
    rw [List.all_eq_not_any_not]
    simpa using this
  have hf : methodCallForm (args.length + ([] : List Keyword).length) (backTo pos (starEach args env)) (backToKw pos (keywordEach [] env)) = true := by
    unfold methodCallForm
    rw [hall]
    simp [keywordEach, backToKw, hl]
  rw [arm_eval_Call, attr_base hb]
  unfold methodCall calleeOf methodCallPos
  rw [hf]
  simp [hline]
theorem lookup_none {K : PySem.W.Frag} {cA : Str → Option Addr} {F : Hp} : ∀ {fs : List (Str × V)} {gs : List (Str × D)} {x : Str}, fs.map (·.1) = gs.map (·.1) → gs.lookup x = none → fs.lookup x = none
  | [], [], x, _, h => by simp
  | [], _ :: _, x, e, h => by simp at e
  | _ :: _, [], x, e, h => by simp at e
  | (f, v) :: fs, (g, d') :: gs, x, e, h => by
    simp only [List.map_cons, List.cons.injEq] at e
    obtain ⟨rfl, e⟩ := e
    rw [List.lookup_cons] at h ⊢
    cases hb : x == f with
    | true => simp only [hb] at h; cases h
    | false => simp only [hb] at h; exact lookup_none (K := K) (cA := cA) (F := F) e h
theorem de_meth {mt : Str → Option FSem} {m : Str} {apos : Pos} (hmt : ∀ c f, mt c = some f → MethHas W c m f) (hb : notSuper a = true) (hst : notStar b = true) (hss : es.all notStar = true) (hl : (b :: es).length < 30) (hline : (apos.endLine == pos.line) = true)
    (ha : DE W N sc a fa) (hr : DA W N sc (b :: es) ga) : DE W N sc (.Call (.Attribute a m apos) (b :: es) [] pos) (eMeth mt m fa ga) := by
  intro X gd
  refine ⟨fun pins s σ H Q I h => ?_⟩
  obtain ⟨env, M, s', M', F, κ, e, t, er, k⟩ := h
  unfold eMeth at e
  split at e
  rotate_left
  · cases e
  rename_i s1 M1 e1
  split at e
  rotate_left
  · cases e
  rename_i c gs e2
  split at e
  rotate_left
  · cases e
  rename_i f e3
  split at e
  · cases e
  rename_i e4
  split at e
  rotate_left
  · cases e
  rename_i ss M2 e5
  have hst' : (b :: es).all notStar = true := by rw [List.all_cons, hst, hss]; rfl
  refine PySem.W.methodCall_KW (thn ((ha X gd).run pins s σ H (fun x H1 => ∃ p C dx fs g fd ps, x = .ref p ∧ H1 p = some (.ins C dx fs) ∧ Cls X.K C ∧ Meth X.K C m g ∧ fs.lookup m = none ∧ Binds X.K fd ps [] ∧ FnOk X.prog X.w X.K X.mg X.base CX0 W.k g fd ps (spG W f) ∧
    tAv W ga σ H1 fun vs H2 => spG W f (.ref p :: vs) H2 Q E0) I ⟨env, M, s1, M1, F, κ, e1, t, er, fun F1 κ1 H1 v x1 t1 r => ?_⟩) fun u s2 ⟨x, H1, I1, rx, p, C, dx, fs, g, fd, ps, ex, ea, c', hm, l, hbd, ok, q⟩ => ?_) (meth_eq hb hst' hl hline X.env)
  · obtain ⟨p, C, dx, fs, rfl, hc, hp, en, rs, na⟩ := (t1.view r e2).obj_ t1.sub
    obtain ⟨g, fd, ps, hm, hbd, ok⟩ := hmt c f e3 C hc
    refine ⟨p, C, dx, fs, g, fd, ps, rfl, hp, by rw [gd.K]; exact W.cls c C hc, by rw [gd.K]; exact hm, lookup_none (K := W.K) (cA := W.cA) (F := F1) en e4, by rw [gd.K]; exact hbd, gd.fnok ok, ?_⟩
    refine ⟨env, M1, ss, M2, F1, κ1, e5, t1, er.ext x1, fun F2 κ2 H2 vs x2 t2 rs2 => ?_⟩
    exact ⟨F2, κ2, M2, s1 :: ss, s', M', .cons (r.ext x2) rs2, e, t2, fun F3 κ3 H3 v x3 => k F3 κ3 H3 v ((x1.trans x2).trans x3)⟩
  · subst ex
    obtain rfl : u = Value.ref p := rx
    refine getmeth_ok I1 ea c' hm l ?_
    refine PySem.W.callWith_K (first := [.ref p]) (h₀ := X.base) I.ok.mod.kin hm.kp (thn ((hr X gd).run pos pins s2 σ H1 _ I1 q) fun us s3 ⟨vs, H2, I2, r, q2⟩ => ⟨I2.kIn, ?_⟩) (star_cons hst _ _) (plain_args hss _ _)
    exact run_fn (us := .ref p :: us) (vs := .ref p :: vs) ok gd.hr hbd .nil pass0 I2 (.cons rfl r) (by rw [List.append_nil]; exact q2)
theorem de_meth0 {mt : Str → Option FSem} {m : Str} {apos : Pos} (hmt : ∀ c f, mt c = some f → MethHas W c m f) (hb : notSuper a = true) (hline : (apos.endLine == pos.line) = true)
    (ha : DE W N sc a fa) : DE W N sc (.Call (.Attribute a m apos) [] [] pos) (eMeth mt m fa aNil) := by
  intro X gd
  refine ⟨fun pins s σ H Q I h => ?_⟩
  obtain ⟨env, M, s', M', F, κ, e, t, er, k⟩ := h
  unfold eMeth at e
  split at e
  rotate_left
  · cases e
  rename_i s1 M1 e1
  split at e
  rotate_left
  · cases e
  rename_i c gs e2
  split at e
  rotate_left
  · cases e
  rename_i f e3
  split at e
  · cases e
  rename_i e4
  simp only [aNil] at e
  refine PySem.W.methodCall_KW (thn ((ha X gd).run pins s σ H (fun x H1 => ∃ p C dx fs g fd ps, x = .ref p ∧ H1 p = some (.ins C dx fs) ∧ Cls X.K C ∧ Meth X.K C m g ∧ fs.lookup m = none ∧ Binds X.K fd ps [] ∧ FnOk X.prog X.w X.K X.mg X.base CX0 W.k g fd ps (spG W f) ∧
    spG W f [.ref p] H1 Q E0) I ⟨env, M, s1, M1, F, κ, e1, t, er, fun F1 κ1 H1 v x1 t1 r => ?_⟩) fun u s2 ⟨x, H1, I1, rx, p, C, dx, fs, g, fd, ps, ex, ea, c', hm, l, hbd, ok, q⟩ => ?_) (meth_eq hb rfl (by simp) hline X.env)
  · obtain ⟨p, C, dx, fs, rfl, hc, hp, en, rs, na⟩ := (t1.view r e2).obj_ t1.sub
    obtain ⟨g, fd, ps, hm, hbd, ok⟩ := hmt c f e3 C hc
    refine ⟨p, C, dx, fs, g, fd, ps, rfl, hp, by rw [gd.K]; exact W.cls c C hc, by rw [gd.K]; exact hm, lookup_none (K := W.K) (cA := W.cA) (F := F1) en e4, by rw [gd.K]; exact hbd, gd.fnok ok, ?_⟩
    exact ⟨F1, κ1, M1, [s1], s', M', .cons r .nil, e, t1, fun F3 κ3 H3 v x3 => k F3 κ3 H3 v (x1.trans x3)⟩
  · subst ex
    obtain rfl : u = Value.ref p := rx
    refine getmeth_ok I1 ea c' hm l ?_
    exact PySem.W.callWith_K0 (first := [.ref p]) I1.kIn hm.kp (run_fn (us := [.ref p]) (vs := [.ref p]) ok gd.hr hbd .nil pass0 I1 (.cons rfl .nil) q)
end
/-! ### statements -/
def sNext : SF := fun env M => some (.nx env M)
def sSeq (f g : SF) : SF := fun env M => match f env M with
  | some (.nx e1 M1) => g e1 M1
  | r => r
def sExpr (f : EF) : SF := fun env M => match f env M with
  | some (_, M1) => some (.nx env M1)
  | none => none
def sRet (f : EF) : SF := fun env M => match f env M with
  | some (s, M1) => some (.rt s M1)
  | none => none
def sRetN : SF := fun _ M => some (.rt (.d .non) M)
def sIf (c : TF) (f g : SF) : SF := fun env M => match c env M with
  | some (true, M1) => f env M1
  | some (false, M1) => g env M1
  | none => none
def sBrk : SF := fun env M => some (.bk env M)
def sCt : SF := fun env M => some (.ct env M)
def sNever : SF := fun _ _ => none
section
variable {W : Wd} {N : List Str} {sc : Scp} {a b c : Expr} {fa fb fc : EF} {st : Stmt} {sts : List Stmt} {f g : SF} {pos : Pos}
theorem db_nil : DB W N sc [] sNext := by
  intro X gd
  refine PSs.imp pss_nil fun D σ H h => ?_
  obtain ⟨env, M, o, F, κ, e, t, er, k⟩ := h
  simp only [sNext, Option.some.injEq] at e
  subst e
  exact k F κ H σ (.refl _ _) t er
theorem db_cons (h1 : DS W N sc st f) (h2 : DB W N sc sts g) : DB W N sc (st :: sts) (sSeq f g) := by
  intro X gd
  refine PSs.imp (pss_cons (h1 X gd) (h2 X gd)) fun D σ H h => ?_
  obtain ⟨env, M, o, F, κ, e, t, er, k⟩ := h
  unfold sSeq at e
  cases e1 : f env M with
  | none => simp [e1] at e
  | some o1 =>
    refine ⟨env, M, o1, F, κ, e1, t, er, ?_⟩
    cases o1 with
    | nx e' M1 =>
      simp only [e1] at e
      intro F1 κ1 H1 σ1 x1 t1 er1
      exact ⟨e', M1, o, F1, κ1, e, t1, er1, k.ext x1⟩
    | rt s M1 =>
      simp only [e1, Option.some.injEq] at e
      subst e
      exact k
    | bk e' M1 =>
      simp only [e1, Option.some.injEq] at e
      subst e
      exact k
    | ct e' M1 =>
      simp only [e1, Option.some.injEq] at e
      subst e
      exact k
theorem db_one (h1 : DS W N sc st f) : DB W N sc [st] f := by
  intro X gd
  exact pss_one (h1 X gd)
theorem ds_pass : DS W N sc (.Pass pos) sNext := by
  intro X gd
  refine PS.imp ps_pass fun D σ H h => ?_
  obtain ⟨env, M, o, F, κ, e, t, er, k⟩ := h
  simp only [sNext, Option.some.injEq] at e
  subst e
  exact k F κ H σ (.refl _ _) t er
theorem ds_brk : DS W N sc (.Break pos) sBrk := by
  intro X gd
  refine PS.imp ps_break fun D σ H h => ?_
  obtain ⟨env, M, o, F, κ, e, t, er, k⟩ := h
  simp only [sBrk, Option.some.injEq] at e
  subst e
  exact k F κ H σ (.refl _ _) t er
theorem ds_ct : DS W N sc (.Continue pos) sCt := by
  intro X gd
  refine PS.imp ps_continue fun D σ H h => ?_
  obtain ⟨env, M, o, F, κ, e, t, er, k⟩ := h
  simp only [sCt, Option.some.injEq] at e
  subst e
  exact k F κ H σ (.refl _ _) t er
theorem ds_never : DS W N sc st sNever := by
  intro X gd
  refine PS.imp ps_never fun D σ H h => ?_
  obtain ⟨env, M, o, F, κ, e, t, er, k⟩ := h
  cases e
theorem ds_ret (ha : DE W N sc a fa) : DS W N sc (.Return (some a) pos) (sRet fa) := by
  intro X gd
  refine PS.imp (ps_ret (ha X gd)) fun D σ H h => ?_
  obtain ⟨env, M, o, F, κ, e, t, er, k⟩ := h
  unfold sRet at e
  split at e
  rotate_left
  · cases e
  rename_i s M1 e1
  simp only [Option.some.injEq] at e
  subst e
  exact ⟨env, M, s, M1, F, κ, e1, t, er, fun F1 κ1 H1 v x1 t1 r => k F1 κ1 H1 v x1 t1 r⟩
theorem ds_retN : DS W N sc (.Return none pos) sRetN := by
  intro X gd
  refine PS.imp ps_retN fun D σ H h => ?_
  obtain ⟨env, M, o, F, κ, e, t, er, k⟩ := h
  simp only [sRetN, Option.some.injEq] at e
  subst e
  exact k F κ H .non (.refl _ _) t (show Rep W.K W.cA F .non .non from .non)
theorem ds_if {cf : TF} {xs ys : List Stmt} (hc : DT W N sc c cf) (h1 : DB W N sc xs f) (h2 : DB W N sc ys g) : DS W N sc (.If c xs ys pos) (sIf cf f g) := by
  intro X gd
  refine PS.imp (ps_if (hc X gd) (h1 X gd) (h2 X gd)) fun D σ H h => ?_
  obtain ⟨env, M, o, F, κ, e, t, er, k⟩ := h
  unfold sIf at e
  split at e
  · rename_i M1 e1
    exact ⟨env, M, _, M1, F, κ, e1, t, er, fun F1 κ1 H1 x1 t1 => iteT ⟨env, M1, o, F1, κ1, e, t1, er.ext x1, k.ext x1⟩⟩
  · rename_i M1 e1
    exact ⟨env, M, _, M1, F, κ, e1, t, er, fun F1 κ1 H1 x1 t1 => iteF ⟨env, M1, o, F1, κ1, e, t1, er.ext x1, k.ext x1⟩⟩
  · cases e
/-- no comprehension -/
def notComp : Expr → Bool
  | .ListComp _ _ _ _ => false
  | .SetComp _ _ _ _ => false
  | .DictComp _ _ _ _ _ => false
  | _ => true
theorem swaps_no {e : Expr} (h : notComp e = true) (t : Option Expr) (l : Nat) (env : Env) : swapsWith e t l env = pure false := by
  cases e <;> first | rfl | cases h
theorem ds_expr (hn : notComp a = true) (ha : DE W N sc a fa) : DS W N sc (.Expr a pos) (sExpr fa) := by
  intro X gd
  refine PS.imp (ps_expr (ha X gd) (swaps_no hn _ _ _)) fun D σ H h => ?_
  obtain ⟨env, M, o, F, κ, e, t, er, k⟩ := h
  unfold sExpr at e
  split at e
  rotate_left
  · cases e
  rename_i s M1 e1
  simp only [Option.some.injEq] at e
  subst e
  exact ⟨env, M, s, M1, F, κ, e1, t, er, fun F1 κ1 H1 v x1 t1 r => k F1 κ1 H1 σ x1 t1 (er.ext x1)⟩
end
/-! ### targets -/
abbrev GF := S → Ev → Ms → Option (Ev × Ms)
abbrev GFs := List D → Ev → Ms → Option (Ev × Ms)
def tGv (W : Wd) (f : GF) : TG := fun v σ H Q => ∃ s env M env' M' F κ, f s env M = some (env', M') ∧ SRep W.K W.cA F κ v s ∧ Stt W.K W.cA F H κ M ∧ EnvR W.K W.cA F κ σ env ∧
  ∀ F' κ' H' σ', Ext F κ F' κ' → Stt W.K W.cA F' H' κ' M' → EnvR W.K W.cA F' κ' σ' env' → Q σ' H'
def tGvs (W : Wd) (f : GFs) : TGs := fun vs σ H Q => ∃ ds env M env' M' F κ, f ds env M = some (env', M') ∧ Reps W.K W.cA F vs ds ∧ Stt W.K W.cA F H κ M ∧ EnvR W.K W.cA F κ σ env ∧
  ∀ F' κ' H' σ', Ext F κ F' κ' → Stt W.K W.cA F' H' κ' M' → EnvR W.K W.cA F' κ' σ' env' → Q σ' H'
def DG (W : Wd) (N : List Str) (sc : Scp) (e : Expr) (f : GF) : Prop := ∀ X, Gd W N sc X → PG X e (tGv W f)
def DGs (W : Wd) (N : List Str) (sc : Scp) (es : List Expr) (f : GFs) : Prop := ∀ X, Gd W N sc X → PGs X es (tGvs W f)
theorem PG.imp {X : Cx} {e : Expr} {t t' : TG} (h : PG X e t) (i : ∀ v σ H Q, t' v σ H Q → t v σ H Q) : PG X e t' := ⟨fun pins s σ H v u Q I r hw => h.run pins s σ H v u Q I r (i v σ H Q hw)⟩
theorem PGs.imp {X : Cx} {e : List Expr} {t t' : TGs} (h : PGs X e t) (i : ∀ v σ H Q, t' v σ H Q → t v σ H Q) : PGs X e t' := ⟨fun pins s σ H v u Q I r hw => h.run pins s σ H v u Q I r (i v σ H Q hw)⟩
def gVar (i : Nat) : GF := fun s env M => if i < env.length then some (env.set i (some s), M) else none
def gsNil : GFs := fun ds env M => match ds with
  | [] => some (env, M)
  | _ => none
def gsCons (f : GF) (g : GFs) : GFs := fun ds env M => match ds with
  | d :: r => match f (.d d) env M with
    | some (e1, M1) => g r e1 M1
    | none => none
  | [] => none
def gTupD (n : Nat) (g : GFs) : GF := fun s env M => match view M s with
  | some (.tup ds) => if ds.length = n then g ds env M else none
  | _ => none
section
variable {W : Wd} {N : List Str} {sc : Scp} {a b c : Expr} {fa fb fc : EF} {es : List Expr} {st : Stmt} {sts : List Stmt} {pos : Pos}
theorem dg_var {i : Nat} {x : Str} (hi : N[i]? = some x) (hx : L2.Loc sc.toScope x) (hf : sc.fs x = true ∨ sc.names.lookup x = some .local) : DG W N sc (.Name x pos) (gVar i) := by
  intro X gd
  refine PG.imp (pg_name (i := i) (by rw [gd.eN]; exact gd.nd) (by rw [gd.eN]; exact hi) (by rw [gd.eS]; exact hx) (by rw [gd.eS]; exact hf.imp_left (gd.fn x))) fun v σ H Q h => ?_
  obtain ⟨s, env, M, env', M', F, κ, e, r, t, er, k⟩ := h
  unfold gVar at e
  split at e
  rotate_left
  · cases e
  simp only [Option.some.injEq, Prod.mk.injEq] at e
  obtain ⟨rfl, rfl⟩ := e
  exact k F κ H _ (.refl _ _) t (er.set r)
theorem dgs_nil : DGs W N sc [] gsNil := by
  intro X gd
  refine PGs.imp pgs_nil fun vs σ H Q h => ?_
  obtain ⟨ds, env, M, env', M', F, κ, e, r, t, er, k⟩ := h
  unfold gsNil at e
  split at e
  rotate_left
  · cases e
  simp only [Option.some.injEq, Prod.mk.injEq] at e
  obtain ⟨rfl, rfl⟩ := e
  cases r
  exact ⟨rfl, k F κ H _ (.refl _ _) t er⟩
theorem assign_cons {e : Expr} (h : notStar e = true) (es : List Expr) (env : Env) : (assignEach (e :: es) env).map (·.2) = assign e env :: (assignEach es env).map (·.2) := by
  cases e <;> first | rfl | cases h
theorem assign_len : ∀ (es : List Expr) (env : Env), (assignEach es env).length = es.length
  | [], _ => rfl
  | e :: es, env => by
    have ih := assign_len es env
    cases e <;> exact congrArg Nat.succ ih
theorem assign_plain : ∀ {es : List Expr} (h : es.all notStar = true) (env : Env), (assignEach es env).findIdx? (·.1) = none
  | [], _, _ => rfl
  | e :: es, h, env => by
    simp only [List.all_cons, Bool.and_eq_true] at h
    have ih := assign_plain h.2 env
    have : assignEach (e :: es) env = (false, assign e env) :: assignEach es env := by
      have h1 := h.1
      cases e <;> first | rfl | cases h1
    rw [this, List.findIdx?_cons]
    simp [ih]
theorem dgs_cons {f : GF} {g : GFs} (hs : notStar a = true) (h1 : DG W N sc a f) (h2 : DGs W N sc es g) : DGs W N sc (a :: es) (gsCons f g) := by
  intro X gd
  refine PGs.imp (pgs_cons (h1 X gd) (h2 X gd) (assign_cons hs _ _)) fun vs σ H Q h => ?_
  obtain ⟨ds, env, M, env', M', F, κ, e, r, t, er, k⟩ := h
  unfold gsCons at e
  split at e
  rotate_left
  · cases e
  rename_i d rest
  split at e
  rotate_left
  · cases e
  rename_i e1 M1 q1
  cases r with
  | cons r rr =>
    refine ⟨_, _, rfl, .d d, env, M, e1, M1, F, κ, q1, r, t, er, fun F1 κ1 H1 σ1 x1 t1 er1 => ?_⟩
    exact ⟨rest, e1, M1, env', M', F1, κ1, e, rr.mono x1.sub, t1, er1, fun F2 κ2 H2 σ2 x2 => k F2 κ2 H2 σ2 (x1.trans x2)⟩
theorem dg_tup {j : Nat} {g : GFs} (hs : es.all notStar = true) (h : DGs W N sc es g) : DG W N sc (.Tuple es j pos) (gTupD es.length g) := by
  intro X gd
  refine PG.imp (pg_tup (n := es.length) gd.calm (h X gd) (assign_len _ _) (assign_plain hs _)) fun v σ H Q h => ?_
  obtain ⟨s, env, M, env', M', F, κ, e, r, t, er, k⟩ := h
  unfold gTupD at e
  split at e
  rotate_left
  · cases e
  rename_i ds e1
  split at e
  rotate_left
  · cases e
  rename_i hl
  obtain ⟨p, vs, rfl, hq, rs⟩ := (t.view r e1).tup_ t.sub
  exact ⟨p, vs, rfl, by rw [gd.K]; exact hq, by rw [rs.length]; exact hl, ds, env, M, env', M', F, κ, e, rs, t, er, k⟩
end
end G
/-! New lists and dicts in cells; assignments. -/
namespace G
open PySem L2
/-- a new thing: what its cell would hold -/
abbrev CF := Ev → Ms → Option (Cell × Ms)
def notFrz : Cell → Bool
  | .frz _ => false
  | _ => true
def tFr (W : Wd) (f : CF) : TE := fun σ H Q => ∃ env M c M' F κ, f env M = some (c, M') ∧ Stt W.K W.cA F H κ M ∧ EnvR W.K W.cA F κ σ env ∧
  ∀ F' κ' H' p, Ext F κ F' κ' → Stt W.K W.cA F' H' κ' M' → p ∉ κ' → notFrz c = true → CellR W.K W.cA F' H' p c → Q (.ref p) H'
def DF (W : Wd) (N : List Str) (sc : Scp) (e : Expr) (f : CF) : Prop := ∀ X, Gd W N sc X → PE X e (tFr W f)
def eTree (f : CF) : EF := fun env M => match f env M with
  | some (c, M') => some (.d c.toD, M')
  | none => none
def eLive (f : CF) : EF := fun env M => match f env M with
  | some (c, M') => some (.hd M'.length, M' ++ [c])
  | none => none
section
variable {W : Wd} {N : List Str} {sc : Scp} {a b c : Expr} {fa fb fc : EF} {es : List Expr} {ga : AF} {pos : Pos}
theorem CellR.tree {K : PySem.W.Frag} {cA : Str → Option Addr} {F H : Hp} {p : Addr} {c : Cell} (h : CellR K cA F H p c) (hn : notFrz c = true) : F p = none ∧ ∃ o, H p = some o ∧ Rep K cA (upd F p o) (.ref p) c.toD := by
  cases c with
  | lst ds => obtain ⟨f, vs, q1, q2⟩ := h; exact ⟨f, _, q1, .lst upd_same (q2.mono (SubH.upd f))⟩
  | dct kds => obtain ⟨f, kvs, q1, q2, q3⟩ := h; exact ⟨f, _, q1, .dct (.inl upd_same) q2 (q3.mono (SubH.upd f))⟩
  | obj c gs => obtain ⟨f, C, dx, fs, q1, q2, q3, q4, q5⟩ := h; exact ⟨f, _, q2, .obj q1 upd_same q3 (q4.mono (SubH.upd f)) q5⟩
  | frz d => cases hn
/-- what stands beside the cells stands still from here on -/
theorem Stt.addF {K : PySem.W.Frag} {cA : Str → Option Addr} {F H : Hp} {κ : List Addr} {M : Ms} (t : Stt K cA F H κ M) {p : Addr} {o : HO} (hp : p ∉ κ) (fp : F p = none) (ho : H p = some o) : Stt K cA (upd F p o) H κ M := by
  refine ⟨fun b u e => ?_, t.nd, t.len, t.tr, fun j b c e1 e2 => ?_⟩
  · by_cases hb : b = p
    · subst hb; rw [upd_same] at e; cases e; exact .inl ho
    · rw [upd_ne hb] at e; exact t.sub b u e
  · have hne : b ≠ p := fun e => hp (e ▸ List.mem_of_getElem? e1)
    have q := t.cell j b c e1 e2
    have up := SubH.upd (o := o) fp
    cases c with
    | lst ds => obtain ⟨f, vs, q1, q2⟩ := q; exact ⟨by rw [upd_ne hne]; exact f, vs, q1, q2.mono up⟩
    | dct kds => obtain ⟨f, kvs, q1, q2, q3⟩ := q; exact ⟨by rw [upd_ne hne]; exact f, kvs, q1, q2, q3.mono up⟩
    | obj c gs => obtain ⟨f, C, dx, fs, q1, q2, q3, q4, q5⟩ := q; exact ⟨by rw [upd_ne hne]; exact f, C, dx, fs, q1, q2, q3, q4.mono up, q5⟩
    | frz d => exact Rep.mono up q
theorem Stt.addC {K : PySem.W.Frag} {cA : Str → Option Addr} {F H : Hp} {κ : List Addr} {M : Ms} (t : Stt K cA F H κ M) {p : Addr} {c : Cell} (hp : p ∉ κ) (hn : ∀ d, c ≠ .frz d) (hc : CellR K cA F H p c) : Stt K cA F H (κ ++ [p]) (M ++ [c]) := by
  refine ⟨t.sub, ?_, by simp [t.len], fun a ha => ?_, fun k a c' e1 e2 => ?_⟩
  · rw [List.nodup_append]
    exact ⟨t.nd, by simp, fun a ha b hb => by
      have : b = p := by simpa using hb
      subst this
      rintro rfl
      exact hp ha⟩
  · rcases List.mem_append.mp ha with ha | ha
    · exact t.tr a ha
    · have : a = p := by simpa using ha
      subst this
      exact hc.some_ hn
  · by_cases hk : k < κ.length
    · rw [List.getElem?_append_left hk] at e1
      rw [List.getElem?_append_left (by rw [← t.len]; exact hk)] at e2
      exact t.cell k a c' e1 e2
    · rw [List.getElem?_append_right (by omega)] at e1
      rw [List.getElem?_append_right (by rw [← t.len]; omega)] at e2
      have h1 : k - κ.length = 0 := by
        obtain ⟨hl, _⟩ := List.getElem?_eq_some_iff.mp e1
        simpa using hl
      rw [h1] at e1
      rw [← t.len, h1] at e2
      simp at e1 e2
      subst e1 e2
      exact hc
theorem Stt.fresh {K : PySem.W.Frag} {cA : Str → Option Addr} {F H : Hp} {κ : List Addr} {M : Ms} (t : Stt K cA F H κ M) {p : Addr} (hp : H p = none) : p ∉ κ := fun hm => by
  obtain ⟨o, e⟩ := t.tr p hm
  rw [hp] at e; cases e
theorem de_tree {f : CF} (h : DF W N sc a f) : DE W N sc a (eTree f) := by
  intro X gd
  refine PE.imp (h X gd) fun σ H Q h => ?_
  obtain ⟨env, M, s, M', F, κ, e, t, er, k⟩ := h
  unfold eTree at e
  split at e
  rotate_left
  · cases e
  rename_i c M1 e1
  simp only [Option.some.injEq, Prod.mk.injEq] at e
  obtain ⟨rfl, rfl⟩ := e
  refine ⟨env, M, c, M1, F, κ, e1, t, er, fun F1 κ1 H1 p x1 t1 hp hn r => ?_⟩
  obtain ⟨fp, o, ho, rep⟩ := r.tree hn
  exact k _ κ1 H1 (.ref p) (x1.trans (.sub' (SubH.upd fp))) (t1.addF hp fp ho) rep
theorem notFrz_ne {c : Cell} (h : notFrz c = true) : ∀ d, c ≠ .frz d := fun d e => by subst e; cases h
theorem de_live {f : CF} (h : DF W N sc a f) : DE W N sc a (eLive f) := by
  intro X gd
  refine PE.imp (h X gd) fun σ H Q h => ?_
  obtain ⟨env, M, s, M', F, κ, e, t, er, k⟩ := h
  unfold eLive at e
  split at e
  rotate_left
  · cases e
  rename_i c M1 e1
  simp only [Option.some.injEq, Prod.mk.injEq] at e
  obtain ⟨rfl, rfl⟩ := e
  refine ⟨env, M, c, M1, F, κ, e1, t, er, fun F1 κ1 H1 p x1 t1 hp hn r => ?_⟩
  refine k _ (κ1 ++ [p]) H1 (.ref p) (x1.trans ⟨.refl _, [p], rfl⟩) (t1.addC hp (notFrz_ne hn) r) ⟨p, ?_, rfl⟩
  rw [← t1.len]
  simp
def cLst (f : AF) : CF := fun env M => match f env M with
  | some (ss, M1) => match frzL ss M1 with
    | some (ds, M2) => if ds.length ≤ sizeLine then some (.lst ds, M2) else none
    | none => none
  | none => none
theorem df_lst (h : DA W N sc es ga) : DF W N sc (.List es pos) (cLst ga) := by
  intro X gd
  refine PE.imp (pe_lst (h X gd)) fun σ H Q h => ?_
  obtain ⟨env, M, s, M', F, κ, e, t, er, k⟩ := h
  unfold cLst at e
  split at e
  rotate_left
  · cases e
  rename_i ss M1 e1
  split at e
  rotate_left
  · cases e
  rename_i ds M2 e2
  split at e
  rotate_left
  · cases e
  rename_i hz
  simp only [Option.some.injEq, Prod.mk.injEq] at e
  obtain ⟨rfl, rfl⟩ := e
  refine ⟨env, M, ss, M1, F, κ, e1, t, er, fun F1 κ1 H1 vs x1 t1 rs => ?_⟩
  obtain ⟨F2, x2, t2, r2⟩ := t1.frzL rs e2
  refine ⟨by rw [r2.length]; exact hz, fun p hp => ?_⟩
  exact k F2 κ1 _ p (x1.trans x2) (t2.new (New.oneH t2.sub hp)) (t2.fresh hp) rfl ⟨t2.sub.none hp, vs, upd_same, r2⟩
/-- {} -/
def cDct0 : CF := fun _ M => some (.dct [], M)
theorem df_dct0 : DF W N sc (.Dict [] [] pos) cDct0 := by
  intro X gd
  refine PE.imp pe_dnewK fun σ H Q h => ?_
  obtain ⟨env, M, s, M', F, κ, e, t, er, k⟩ := h
  simp only [cDct0, Option.some.injEq, Prod.mk.injEq] at e
  obtain ⟨rfl, rfl⟩ := e
  intro p hp
  exact k F κ _ p (.refl _ _) (t.new (New.oneH t.sub hp)) (t.fresh hp) rfl ⟨t.sub.none hp, [], upd_same, rfl, .nil⟩
end
/-! ### targets that change a cell -/
/-- o[i] = v -/
def setCell (M : Ms) (o : S) (i v : D) : Option Ms := match o with
  | .hd k => match M[k]? with
    | some (.lst ds) => match i with
      | .int z => match ixN ds.length z with
        | some j => some (M.set k (.lst (ds.set j v)))
        | none => none
      | _ => none
    | some (.dct kds) => match keyD i with
      | some q => if kds.length < sizeLine then some (M.set k (.dct (putD kds q v))) else none
      | none => none
    | _ => none
  | _ => none
/-- o.f = v -/
def setFld (na : Str → Str → Bool) (M : Ms) (o : S) (f : Str) (v : D) : Option Ms := match o with
  | .hd k => match M[k]? with
    | some (.obj c gs) => if na c f && decide (gs.length < 1000) then some (M.set k (.obj c (putFD f v gs))) else none
    | _ => none
  | _ => none
where
  putFD (f : Str) (v : D) : List (Str × D) → List (Str × D)
    | [] => [(f, v)]
    | (g, x) :: r => if g = f then (g, v) :: r else (g, x) :: putFD f v r
section
variable {K : PySem.W.Frag} {cA : Str → Option Addr} {F H : Hp} {κ : List Addr} {M : Ms}
/-- a cell is changed -/
theorem Stt.setc (t : Stt K cA F H κ M) {k : Nat} {p : Addr} {c c' : Cell} {o : HO} (hk : κ[k]? = some p) (hc : M[k]? = some c) (hF : F p = none) (hn : CellR K cA F (upd H p o) p c') : Stt K cA F (upd H p o) κ (M.set k c') := by
  refine ⟨fun b u e => ?_, t.nd, by rw [List.length_set]; exact t.len, fun b hb => ?_, fun j b c2 e1 e2 => ?_⟩
  · have : b ≠ p := by rintro rfl; rw [hF] at e; cases e
    rw [upd_ne this]; exact t.sub b u e
  · by_cases e : b = p
    · subst e; exact ⟨o, upd_same⟩
    · obtain ⟨u, q⟩ := t.tr b hb; exact ⟨u, by rw [upd_ne e]; exact q⟩
  · by_cases hj : k = j
    · subst hj
      have hl : k < M.length := (List.getElem?_eq_some_iff.mp hc).1
      rw [List.getElem?_set_self hl] at e2
      cases e2
      rw [hk] at e1; cases e1
      exact hn
    · rw [List.getElem?_set_ne hj] at e2
      have hne : b ≠ p := fun z => hj (nodup_get t.nd hk (by rw [← z]; exact e1))
      have q := t.cell j b c2 e1 e2
      cases c2 with
      | lst ds => obtain ⟨f, vs, q1, q2⟩ := q; exact ⟨f, vs, by rw [upd_ne hne]; exact q1, q2⟩
      | dct kds => obtain ⟨f, kvs, q1, q2⟩ := q; exact ⟨f, kvs, by rw [upd_ne hne]; exact q1, q2⟩
      | obj c gs => obtain ⟨f, C, dx, fs, q0, q1, q2⟩ := q; exact ⟨f, C, dx, fs, q0, by rw [upd_ne hne]; exact q1, q2⟩
      | frz d => exact q
end
def setStar (X : Cx) : TSet := fun o i v H Q => ∃ r, PSet X r ∧ r o i v H Q
theorem PSet.star (X : Cx) : PSet X (setStar X) := fun pins s σ H o i v ov iv u Q I ro ri rv ⟨r, h, q⟩ => h pins s σ H o i v ov iv u Q I ro ri rv q
theorem putF_rep {K : PySem.W.Frag} {cA : Str → Option Addr} {F : Hp} {v : V} {d : D} (f : Str) (q : Rep K cA F v d) : ∀ {fs : List (Str × V)} {gs : List (Str × D)}, fs.map (·.1) = gs.map (·.1) → Reps K cA F (fs.map (·.2)) (gs.map (·.2)) →
    (putF f v fs).map (·.1) = (setFld.putFD f d gs).map (·.1) ∧ Reps K cA F ((putF f v fs).map (·.2)) ((setFld.putFD f d gs).map (·.2))
  | [], [], _, _ => ⟨rfl, .cons q .nil⟩
  | [], _ :: _, e, _ => by simp at e
  | _ :: _, [], e, _ => by simp at e
  | (g, x) :: fs, (g', y) :: gs, e, r => by
    simp only [List.map_cons, List.cons.injEq] at e
    obtain ⟨rfl, e⟩ := e
    cases r with
    | cons r rr =>
      obtain ⟨i1, i2⟩ := putF_rep f q e rr
      by_cases hk : g = f
      · simp only [putF, setFld.putFD, hk, if_true, List.map_cons]
        exact ⟨by rw [e], .cons q rr⟩
      · simp only [putF, setFld.putFD, hk, if_false, List.map_cons]
        exact ⟨by rw [i1], .cons r i2⟩
theorem putFD_mem {f g : Str} {d : D} : ∀ {gs : List (Str × D)}, g ∈ (setFld.putFD f d gs).map (·.1) → g = f ∨ g ∈ gs.map (·.1)
  | [], h => .inl (by simpa [setFld.putFD] using h)
  | (x, y) :: gs, h => by
    unfold setFld.putFD at h
    split at h
    · exact .inr h
    · rcases List.mem_cons.mp (show g ∈ x :: (setFld.putFD f d gs).map (·.1) from h) with e | e
      · exact .inr (by rw [e]; exact List.mem_cons_self)
      · rcases putFD_mem (f := f) (d := d) (gs := gs) e with e | e
        · exact .inl e
        · exact .inr (List.mem_cons_of_mem _ e)
/-- the targets' functions -/
def gSubD (fo fi : EF) : GF := fun s env M => match fo env M with
  | some (o, M1) => match fi env M1 with
    | some (i, M2) => match view M2 i with
      | some di => match frz M2 s with
        | some (d, M3) => match setCell M3 o di d with
          | some M4 => some (env, M4)
          | none => none
        | none => none
      | none => none
    | none => none
  | none => none
section
variable {W : Wd} {N : List Str} {sc : Scp} {a b c : Expr} {fa fb fc : EF} {es : List Expr} {st : Stmt} {sts : List Stmt} {pos : Pos}
/-- what stands in the context of a store by values -/
theorem set_ok {X : Cx} (gd : Gd W N sc X) {F H : Hp} {κ : List Addr} {M M' : Ms} {o : S} {di d : D} {vo vi v : V} {Q : Hp → Prop} (t : Stt W.K W.cA F H κ M) (ro : SRep W.K W.cA F κ vo o) (ri : VRep W.K W.cA F H vi di) (rv : Rep W.K W.cA F v d) (e : setCell M o di d = some M')
    (k : ∀ H', Stt W.K W.cA F H' κ M' → Q H') : setStar X vo vi v H Q := by
  unfold setCell at e
  split at e
  rotate_left
  · cases e
  rename_i kk
  obtain ⟨p, hk, rfl⟩ := ro
  split at e
  · rename_i ds hc
    split at e
    rotate_left
    · cases e
    rename_i z
    split at e
    rotate_left
    · cases e
    rename_i j hj
    cases e
    obtain ⟨f, vs, q1, q2⟩ := t.cell kk p _ hk hc
    obtain rfl := ri.int_
    refine ⟨_, set_list, p, vs, z, j, rfl, rfl, q1, by rw [q2.length]; exact hj, ?_⟩
    exact k _ (t.setc hk hc f ⟨f, _, upd_same, q2.set rv j⟩)
  · rename_i kds hc
    split at e
    rotate_left
    · cases e
    rename_i q hq
    split at e
    rotate_left
    · cases e
    rename_i hz
    cases e
    obtain ⟨f, kvs, q1, q2, q3⟩ := t.cell kk p _ hk hc
    obtain rfl := keyD_rep ri hq
    have hl : kvs.length = kds.length := by simpa using congrArg List.length q2
    refine ⟨_, set_dict gd.hu, p, _, rfl, DPut.k q1 (by rw [hl]; exact hz), ?_⟩
    obtain ⟨p1, p2⟩ := put_rep (k := q) q2 q3 rv
    exact k _ (t.setc hk hc f ⟨f, _, upd_same, p1, p2⟩)
  · cases e
theorem assign_Sub_eq {o i : Expr} {pos : Pos} (h : notSl i = true) (env : Env) : ∀ v, assign (.Subscript o i pos) env v = (do
      let ov ← holding [v] (eval o env)
      let iv ← holding [v, ov] (eval i env)
      standAt pos
      holding [v, ov, iv] (setItem ov iv v)
      release [v, ov, iv] []) := by
  intro v
  cases i <;> first | rfl | cases h
theorem dg_sub (hs : notSl b = true) (ha : DE W N sc a fa) (hb : DE W N sc b fb) : DG W N sc (.Subscript a b pos) (gSubD fa fb) := by
  intro X gd
  refine PG.imp (pg_sub (ha X gd) (hb X gd) (PSet.star X) (assign_Sub_eq hs X.env)) fun v σ H Q h => ?_
  obtain ⟨s, env, M, env', M', F, κ, e, r, t, er, k⟩ := h
  unfold gSubD at e
  split at e
  rotate_left
  · cases e
  rename_i o M1 e1
  split at e
  rotate_left
  · cases e
  rename_i i M2 e2
  split at e
  rotate_left
  · cases e
  rename_i di e3
  split at e
  rotate_left
  · cases e
  rename_i d M3 e4
  split at e
  rotate_left
  · cases e
  rename_i M4 e5
  simp only [Option.some.injEq, Prod.mk.injEq] at e
  obtain ⟨rfl, rfl⟩ := e
  refine ⟨env, M, o, M1, F, κ, e1, t, er, fun F1 κ1 H1 vo x1 t1 ro => ?_⟩
  refine ⟨env, M1, i, M2, F1, κ1, e2, t1, er.ext x1, fun F2 κ2 H2 vi x2 t2 ri => ?_⟩
  obtain ⟨F3, x3, t3, r3⟩ := t2.frz (r.ext (x1.trans x2)) e4
  have vr : VRep W.K W.cA F3 H2 vi di := by
    cases t2.view ri e3 with
    | rep q => exact .rep (q.mono x3.sub)
    | lst q r => exact .lst q (r.mono x3.sub)
    | dct q e r => exact .dct q e (r.mono x3.sub)
    | obj c q e r n => exact .obj c q e (r.mono x3.sub) n
  refine set_ok gd t3 ((ro.ext x2).ext x3) vr r3 e5 fun H4 t4 => ?_
  have xx := (x1.trans x2).trans x3
  exact k F3 κ2 H4 σ xx t4 (er.ext xx)
/-- o.f = .. -/
def gFldD (na : Str → Str → Bool) (x : Str) (fo : EF) : GF := fun s env M => match fo env M with
  | some (o, M1) => match frz M1 s with
    | some (d, M2) => match setFld na M2 o x d with
      | some M3 => some (env, M3)
      | none => none
    | none => none
  | none => none
def gAttr (K : PySem.W.Frag) (to : TE) (f : Str) : TG := fun v σ H Q => to σ H fun x H1 => ∃ a C dx fs, x = .ref a ∧ H1 a = some (.ins C dx fs) ∧ Cls K C ∧ NoAttr K C f ∧ fs.length < 1000 ∧ Q σ (upd H1 a (.ins C dx (putF f v fs)))
theorem pg_fld {X : Cx} {o : Expr} {to : TE} {f : Str} (ho : PE X o to) : PG X (.Attribute o f pos) (gAttr X.K to f) := by
  refine ⟨fun pins s σ H v u Q I r h => ?_⟩
  show wpAny _ _ (do
    let ov ← holding [u] (eval o X.env)
    standAt pos.atName
    holding [u, ov] (setAttr ov f u)
    release [u, ov] []) _ _ _
  refine wpAny_bind (wpAny_holding (thn (ho.run pins s σ H _ I h) fun ov s1 ⟨x, H1, I1, r1, a, C, dx, fs, ex, ea, c, n, l, q⟩ => ?_))
  subst ex
  obtain rfl : ov = Value.ref a := r1
  refine wpAny_bind (wpAny_standAt (wpAny_bind (wpAny_holding (setattr_ok I1 ea c n l r fun s2 I2 => ?_))))
  exact wpAny_release ⟨σ, _, I2, q⟩
/-- what the classes' own names say: na c f, an instance of c may have a field f -/
def NaOk (W : Wd) (na : Str → Str → Bool) : Prop := ∀ c f C, na c f = true → W.cA c = some C → NoAttr W.K C f
theorem dg_fld {na : Str → Str → Bool} {x : Str} (hna : NaOk W na) (ha : DE W N sc a fa) : DG W N sc (.Attribute a x pos) (gFldD na x fa) := by
  intro X gd
  refine PG.imp (pg_fld (f := x) (ha X gd)) fun v σ H Q h => ?_
  obtain ⟨s, env, M, env', M', F, κ, e, r, t, er, k⟩ := h
  unfold gFldD at e
  split at e
  rotate_left
  · cases e
  rename_i o M1 e1
  split at e
  rotate_left
  · cases e
  rename_i d M2 e2
  split at e
  rotate_left
  · cases e
  rename_i M3 e3
  simp only [Option.some.injEq, Prod.mk.injEq] at e
  obtain ⟨rfl, rfl⟩ := e
  refine ⟨env, M, o, M1, F, κ, e1, t, er, fun F1 κ1 H1 vo x1 t1 ro => ?_⟩
  obtain ⟨F2, x2, t2, r2⟩ := t1.frz (r.ext x1) e2
  have ro2 := ro.ext x2
  unfold setFld at e3
  split at e3
  rotate_left
  · cases e3
  rename_i kk
  obtain ⟨p, hk, rfl⟩ := ro2
  split at e3
  rotate_left
  · cases e3
  rename_i c gs hc
  split at e3
  rotate_left
  · cases e3
  rename_i hn
  cases e3
  simp only [Bool.and_eq_true, decide_eq_true_eq] at hn
  obtain ⟨f0, C, dx, fs, q0, q1, q2, q3, q4⟩ := t2.cell kk p _ hk hc
  have hl : fs.length = gs.length := by simpa using congrArg List.length q2
  have hnn := hna c x C hn.1 q0
  obtain ⟨p1, p2⟩ := putF_rep x r2 q2 q3
  refine ⟨p, C, dx, fs, rfl, q1, by rw [gd.K]; exact W.cls c C q0, by rw [gd.K]; exact hnn, by rw [hl]; exact hn.2, ?_⟩
  have xx := x1.trans x2
  refine k F2 κ1 _ σ xx (t2.setc hk hc f0 ⟨f0, C, dx, _, q0, upd_same, p1, p2, fun g hg => ?_⟩) (er.ext xx)
  rcases putFD_mem hg with e | e
  · rw [e]; exact hnn
  · exact q4 g e
/-! ### assignments -/
def sAsg (fa : EF) (g : GF) : SF := fun env M => match fa env M with
  | some (s, M1) => match g s env M1 with
    | some (e, M2) => some (.nx e M2)
    | none => none
  | none => none
theorem tSv_asg {g : GF} : ∀ D σ H, tSv W (sAsg fa g) D σ H → tAsg (tEv W fa) (tGv W g) D σ H := by
  intro D σ H h
  obtain ⟨env, M, o, F, κ, e, t, er, k⟩ := h
  unfold sAsg at e
  split at e
  rotate_left
  · cases e
  rename_i s M1 e1
  split at e
  rotate_left
  · cases e
  rename_i e' M2 e2
  simp only [Option.some.injEq] at e
  subst e
  refine ⟨env, M, s, M1, F, κ, e1, t, er, fun F1 κ1 H1 v x1 t1 r => ?_⟩
  exact ⟨s, env, M1, e', M2, F1, κ1, e2, r, t1, er.ext x1, fun F2 κ2 H2 σ2 x2 t2 er2 => k F2 κ2 H2 σ2 (x1.trans x2) t2 er2⟩
theorem assign_one {e : Expr} (h : notStar e = true) (env : Env) : (assignEach [e] env).map (·.2) = [assign e env] := assign_cons h [] env
def notName : Expr → Bool
  | .Name _ _ => false
  | _ => true
theorem swaps_noName {t : Expr} (h : notName t = true) (e : Expr) (l : Nat) (env : Env) : swapsWith e (some t) l env = pure false := by
  cases e <;> first | rfl | (cases t <;> first | rfl | cases h)
def notTup : Expr → Bool
  | .Tuple _ _ _ => false
  | .List _ _ => false
  | _ => true
theorem stores_noT {t : Expr} (h : notTup t = true) (e : Expr) (env : Env) : swappedStores [t] e env = pure none := by
  unfold swappedStores
  cases t <;> first | (cases h; done) | rfl
theorem stores_noV {t e : Expr} (h : notTup e = true) (env : Env) : swappedStores [t] e env = pure none := by
  unfold swappedStores
  cases t <;> first | rfl | (cases e <;> first | (cases h; done) | rfl)
/-- target = e, the target no name or e no comprehension -/
theorem ds_asg {g : GF} (hs : notStar a = true) (hsw : notName a = true ∨ notComp b = true) (hst : ∀ env, env.scope = sc.toScope → swappedStores [a] b env = pure none) (hg : DG W N sc a g) (hb : DE W N sc b fb) : DS W N sc (.Assign [a] b pos) (sAsg fb g) := by
  intro X gd
  refine PS.imp (ps_asg (hb X gd) (hg X gd) ?_ (hst X.env gd.eS) (assign_one hs _)) (tSv_asg (g := g))
  show swapsWith b (some a) pos.line X.env = pure false
  rcases hsw with h | h
  · exact swaps_noName h _ _ _
  · exact swaps_no h _ _ _
/-- a, b = x, y with plain local names -/
def sPar (i j : Nat) (ga : AF) : SF := fun env M => match ga env M with
  | some ([s, s'], M1) => if i < env.length ∧ j < env.length then some (.nx ((env.set i (some s)).set j (some s')) M1) else none
  | _ => none
def pureOf {α : Type} : Sem α → Option α
  | .pure a => some a
  | _ => none
theorem pureOf_eq {α : Type} {t : Sem α} {a : α} (h : pureOf t = some a) : t = pure a := by
  cases t <;> first | (cases h; rfl) | cases h
def envD (sc : Scope) : Env := { scope := sc, locals := 0, globals := 0, cells := [] }
theorem stores_env {sc : Scope} {ts : List Expr} {e : Expr} {env : Env} (h : env.scope = sc) : swappedStores ts e env = swappedStores ts e (envD sc) := by
  subst h
  unfold swappedStores Env.blockKind Env.kindOf envD
  rfl
theorem swaps_env {sc : Scope} {t : Option Expr} {e : Expr} {l : Nat} {env : Env} (h : env.scope = sc) : swapsWith e t l env = swapsWith e t l (envD sc) := by
  subst h
  unfold swapsWith Env.blockKind Env.kindOf envD
  rfl
theorem stores_of {ts : List Expr} {e : Expr} {r : Option (List Str)} (h : pureOf (swappedStores ts e (envD sc.toScope)) = some r) (env : Env) (he : env.scope = sc.toScope) : swappedStores ts e env = pure r := (stores_env he).trans (pureOf_eq h)
theorem swaps_of {t : Option Expr} {e : Expr} {l : Nat} {r : Bool} (h : pureOf (swapsWith e t l (envD sc.toScope)) = some r) (env : Env) (he : env.scope = sc.toScope) : swapsWith e t l env = pure r := (swaps_env he).trans (pureOf_eq h)
theorem ds_par {i j k k2 : Nat} {x y : Str} {px py pt pt2 : Pos} {ga : AF} (hi : N[i]? = some x) (hj : N[j]? = some y) (hij : i ≠ j) (hx : sc.names.lookup x = some .local) (hy : sc.names.lookup y = some .local) (hga : DA W N sc [a, b] ga)
    (hw : pureOf (swappedStores [.Tuple [.Name x px, .Name y py] k pt] (.Tuple [a, b] k2 pt2) (envD sc.toScope)) = some (some [x, y])) :
    DS W N sc (.Assign [.Tuple [.Name x px, .Name y py] k pt] (.Tuple [a, b] k2 pt2) pos) (sPar i j ga) := by
  intro X gd
  refine PS.imp (ps_par (i := i) (j := j) gd.calm (by rw [gd.eN]; exact gd.nd) (by rw [gd.eN]; exact hi) (by rw [gd.eN]; exact hj) hij (by rw [gd.eS]; exact hx) (by rw [gd.eS]; exact hy) (hga X gd) (stores_of hw _ gd.eS) rfl) fun D σ H h => ?_
  obtain ⟨env, M, o, F, κ, e, t, er, q⟩ := h
  unfold sPar at e
  split at e
  rotate_left
  · cases e
  rename_i s s' M1 e1
  split at e
  rotate_left
  · cases e
  simp only [Option.some.injEq] at e
  subst e
  refine ⟨env, M, _, M1, F, κ, e1, t, er, fun F1 κ1 H1 vs x1 t1 rs => ?_⟩
  cases rs with
  | cons r1 rs =>
    cases rs with
    | cons r2 rs =>
      cases rs
      exact ⟨_, _, rfl, q F1 κ1 H1 _ x1 t1 (((er.ext x1).set r1).set r2)⟩
/-- a, b, c = x, y, z -/
def sPar3 (i j l : Nat) (ga : AF) : SF := fun env M => match ga env M with
  | some ([s, s', s''], M1) => if i < env.length ∧ j < env.length ∧ l < env.length then some (.nx (((env.set i (some s)).set j (some s')).set l (some s'')) M1) else none
  | _ => none
theorem ds_par3 {i j l k k2 : Nat} {x y z : Str} {px py pz pt pt2 : Pos} {ga : AF} (hi : N[i]? = some x) (hj : N[j]? = some y) (hl : N[l]? = some z) (hij : i ≠ j) (hil : i ≠ l) (hjl : j ≠ l) (hx : sc.names.lookup x = some .local) (hy : sc.names.lookup y = some .local) (hz : sc.names.lookup z = some .local)
    (hga : DA W N sc [a, b, c] ga) (hw : pureOf (swappedStores [.Tuple [.Name x px, .Name y py, .Name z pz] k pt] (.Tuple [a, b, c] k2 pt2) (envD sc.toScope)) = some (some [x, y, z])) :
    DS W N sc (.Assign [.Tuple [.Name x px, .Name y py, .Name z pz] k pt] (.Tuple [a, b, c] k2 pt2) pos) (sPar3 i j l ga) := by
  intro X gd
  refine PS.imp (ps_par3 (i := i) (j := j) (l := l) gd.calm (by rw [gd.eN]; exact gd.nd) (by rw [gd.eN]; exact hi) (by rw [gd.eN]; exact hj) (by rw [gd.eN]; exact hl) hij hil hjl (by rw [gd.eS]; exact hx) (by rw [gd.eS]; exact hy) (by rw [gd.eS]; exact hz) (hga X gd) (stores_of hw _ gd.eS) rfl) fun D σ H h => ?_
  obtain ⟨env, M, o, F, κ, e, t, er, q⟩ := h
  unfold sPar3 at e
  split at e
  rotate_left
  · cases e
  rename_i s s' s'' M1 e1
  split at e
  rotate_left
  · cases e
  simp only [Option.some.injEq] at e
  subst e
  refine ⟨env, M, _, M1, F, κ, e1, t, er, fun F1 κ1 H1 vs x1 t1 rs => ?_⟩
  cases rs with
  | cons r1 rs =>
    cases rs with
    | cons r2 rs =>
      cases rs with
      | cons r3 rs =>
        cases rs
        exact ⟨_, _, _, rfl, q F1 κ1 H1 _ x1 t1 ((((er.ext x1).set r1).set r2).set r3)⟩
end
end G
/-! Stores by an operator; loops. -/
namespace G
open PySem L2
def ipStar (X : Cx) (op : Operator) : TIp := fun x y H Q => ∃ r, OpR X (inplaceOp op) r ∧ r x y H Q
theorem PIp.star (X : Cx) (op : Operator) : PIp X op (ipStar X op) := fun pins s σ H x y v u Q I rx ry ⟨r, h, q⟩ => h pins s σ H x y v u Q I rx ry q
theorem InOp.star (X : Cx) (op : Operator) : InOp X op (ipStar X op) := fun pins s σ H x y v u Q I rx ry ⟨r, h, q⟩ => h pins s σ H x y v u Q I rx ry q
/-- name op= e: a number or a text; a list in a cell is made longer -/
def sAug (i : Nat) (g : D → D → Option D) (fa : EF) : SF := fun env M => match env[i]? with
  | some (some (.d x)) => match fa env M with
    | some (s, M1) => match view M1 s with
      | some y => match g x y with
        | some r => some (.nx (env.set i (some (.d r))) M1)
        | none => none
      | none => none
    | none => none
  | _ => none
/-- .. on data that are no lists -/
def IpS (op : Operator) (g : D → D → Option D) : Prop := OpS (inplaceOp op) g
def sAugL (i : Nat) (fa : EF) : SF := fun env M => match env[i]? with
  | some (some (.hd k)) => match fa env M with
    | some (s, M1) => match view M1 s with
      | some (.lst zs) => match M1[k]? with
        | some (.lst xs) => if xs.length + zs.length ≤ sizeLine then some (.nx env (M1.set k (.lst (xs ++ zs)))) else none
        | _ => none
      | _ => none
    | none => none
  | _ => none
/-- either -/
def sAugAny (i : Nat) (g : D → D → Option D) (fa : EF) : SF := fun env M => match env[i]? with
  | some (some (.d _)) => sAug i g fa env M
  | some (some (.hd _)) => sAugL i fa env M
  | _ => none
section
variable {W : Wd} {N : List Str} {sc : Scp} {a b c : Expr} {fa fb fc : EF} {es : List Expr} {st : Stmt} {sts : List Stmt} {pos : Pos}
theorem ds_aug {i : Nat} {x : Str} {op : Operator} {g : D → D → Option D} {p : Pos} (hi : N[i]? = some x) (hx : L2.Loc sc.toScope x) (hf : sc.fs x = true ∨ sc.names.lookup x = some .local) (ho : OpS (inplaceOp op) g) (hl : op = .Add) (ha : DE W N sc a fa) : DS W N sc (.AugAssign (.Name x p) op a pos) (sAugAny i g fa) := by
  intro X gd
  refine PS.imp (ps_aug (i := i) (by rw [gd.eN]; exact gd.nd) (by rw [gd.eN]; exact hi) (by rw [gd.eS]; exact hx) (ha X gd) (PIp.star X op) (by rw [gd.eS]; exact hf.imp_left (gd.fn x))) fun D σ H h => ?_
  obtain ⟨env, M, o, F, κ, e, t, er, q⟩ := h
  unfold sAugAny at e
  split at e
  · unfold sAug at e
    split at e
    rotate_left
    · cases e
    rename_i dx hdx
    split at e
    rotate_left
    · cases e
    rename_i s M1 e1
    split at e
    rotate_left
    · cases e
    rename_i dy e2
    split at e
    rotate_left
    · cases e
    rename_i r e3
    simp only [Option.some.injEq] at e
    subst e
    obtain ⟨vx, hvx, rx⟩ := er.at_ i _ hdx
    refine ⟨vx, hvx, env, M, s, M1, F, κ, e1, t, er, fun F1 κ1 H1 vy x1 t1 ry => ?_⟩
    have rx1 := rx.ext x1
    exact ho W N sc X gd F1 H1 vx vy dx dy r t1.sub (.rep rx1) (t1.view ry e2) e3 _ fun v F2 H2 n rv => q F2 κ1 H2 _ (x1.trans (.sub' n.fr)) (t1.new n) ((er.ext (x1.trans (.sub' n.fr))).set rv)
  · unfold sAugL at e
    split at e
    rotate_left
    · cases e
    rename_i k hdx
    split at e
    rotate_left
    · cases e
    rename_i s M1 e1
    split at e
    rotate_left
    · cases e
    rename_i zs e2
    split at e
    rotate_left
    · cases e
    rename_i xs e3
    split at e
    rotate_left
    · cases e
    rename_i hz
    simp only [Option.some.injEq] at e
    subst e
    obtain ⟨vx, hvx, rx⟩ := er.at_ i _ hdx
    refine ⟨vx, hvx, env, M, s, M1, F, κ, e1, t, er, fun F1 κ1 H1 vy x1 t1 ry => ?_⟩
    obtain ⟨p, hk, rfl⟩ := rx.ext x1
    obtain ⟨f, vs, q1, q2⟩ := t1.cell k p _ hk e3
    obtain ⟨p2, ws, rfl, q3, q4⟩ := (t1.view ry e2).lst_ t1.sub
    subst hl
    refine ⟨_, iop_ext, p, p2, vs, ws, rfl, rfl, q1, q3, by rw [q2.length, q4.length]; exact hz, ?_⟩
    have t2 := t1.setc hk e3 f (c' := .lst (xs ++ zs)) (o := .lst (vs ++ ws)) ⟨f, _, upd_same, q2.append q4⟩
    refine q F1 κ1 _ _ x1 t2 ?_
    have er1 := er.ext x1
    have := er1.set (i := i) (v := .ref p) (s := .hd k) ⟨p, hk, rfl⟩
    have hs : env.set i (some (.hd k)) = env := by
      apply List.ext_getElem?
      intro j
      by_cases hj : i = j
      · subst hj
        obtain ⟨hl, _⟩ := List.getElem?_eq_some_iff.mp hdx
        rw [List.getElem?_set_self hl, hdx]
      · rw [List.getElem?_set_ne hj]
    rw [hs] at this
    exact this
  · cases e
theorem ds_augN {i : Nat} {x : Str} {op : Operator} {g : D → D → Option D} {p : Pos} (hi : N[i]? = some x) (hx : L2.Loc sc.toScope x) (hf : sc.fs x = true ∨ sc.names.lookup x = some .local) (ho : OpS (inplaceOp op) g) (ha : DE W N sc a fa) : DS W N sc (.AugAssign (.Name x p) op a pos) (sAug i g fa) := by
  intro X gd
  refine PS.imp (ps_aug (i := i) (by rw [gd.eN]; exact gd.nd) (by rw [gd.eN]; exact hi) (by rw [gd.eS]; exact hx) (ha X gd) (PIp.star X op) (by rw [gd.eS]; exact hf.imp_left (gd.fn x))) fun D σ H h => ?_
  obtain ⟨env, M, o, F, κ, e, t, er, q⟩ := h
  unfold sAug at e
  split at e
  rotate_left
  · cases e
  rename_i dx hdx
  split at e
  rotate_left
  · cases e
  rename_i s M1 e1
  split at e
  rotate_left
  · cases e
  rename_i dy e2
  split at e
  rotate_left
  · cases e
  rename_i r e3
  simp only [Option.some.injEq] at e
  subst e
  obtain ⟨vx, hvx, rx⟩ := er.at_ i _ hdx
  refine ⟨vx, hvx, env, M, s, M1, F, κ, e1, t, er, fun F1 κ1 H1 vy x1 t1 ry => ?_⟩
  have rx1 := rx.ext x1
  exact ho W N sc X gd F1 H1 vx vy dx dy r t1.sub (.rep rx1) (t1.view ry e2) e3 _ fun v F2 H2 n rv => q F2 κ1 H2 _ (x1.trans (.sub' n.fr)) (t1.new n) ((er.ext (x1.trans (.sub' n.fr))).set rv)
/-! ### o[i] op= e -/
def getStar (X : Cx) : V → V → Hp → VK → Prop := fun o i H Q => ∃ r, PGet X r ∧ r o i H Q
theorem PGet.star (X : Cx) : PGet X (getStar X) := fun pins s σ H o i ov iv Q I ro ri ⟨r, h, q⟩ => h pins s σ H o i ov iv Q I ro ri q
theorem get_list {X : Cx} : PGet X (fun x y H Q => ∃ p xs i v, x = .ref p ∧ y = .int i ∧ 0 ≤ i ∧ SqL X.K H p xs ∧ atI xs i = some v ∧ Q v H) := by
  intro pins s σ H x y v u Q I rx ry h
  obtain ⟨p, xs, i, z, rfl, rfl, h0, hq, he, q⟩ := h
  cases rx
  obtain ⟨t, rfl⟩ := ry
  obtain ⟨its, r, pl, hz⟩ := I.list hq
  obtain ⟨j, h1, h2, h3, h4, h5⟩ := atI_get he
  obtain ⟨w, ew, rw'⟩ := r.get h2
  have hl := r.length
  have hn := line63
  have fin : EP X pins σ Q w s := ⟨z, H, I, rw', q⟩
  have hj : i.toNat = j := by
    rw [seqIndex_of h0 h5] at h1
    exact Option.some.inj h1
  exact wpAny_getItem_list pl.isList h0 (by omega) (by rw [hj]; simpa using ew) fin
theorem get_dict {X : Cx} (hu : X.A.units + 1 < cLine) : PGet X (fun x y H Q => ∃ a v, x = .ref a ∧ DGet H a y (some v) ∧ Q v H) := by
  intro pins s σ H x y v u Q I rx ry h
  obtain ⟨a, z, rfl, g, q⟩ := h
  cases rx
  exact d_getItem hu I g ry fun w' s3 I3 rw' => ⟨z, H, I3, rw', q⟩
/-- the item at i of what is changed in place -/
def augGet (d i : D) : Option D := match d, i with
  | .lst ds, .int z => if 0 ≤ z then atI ds z else none
  | .dct kds, y => match keyD y with
    | some k => valD kds k
    | none => none
  | _, _ => none
def sAugS (g : D → D → Option D) (fo fi fe : EF) : SF := fun env M => match fo env M with
  | some (o, M1) => match fi env M1 with
    | some (i, M2) => match view M2 o with
      | some d => match view M2 i with
        | some di => match augGet d di with
          | some x => match fe env M2 with
            | some (s, M3) => match view M3 s with
              | some y => match g x y with
                | some z => match setCell M3 o di z with
                  | some M4 => some (.nx env M4)
                  | none => none
                | none => none
              | none => none
            | none => none
          | none => none
        | none => none
      | none => none
    | none => none
  | none => none
theorem aug_Sub_eq {i : Expr} (h : notSl i = true) : ∀ ov iv new, augStore i ov iv new = (do holding [new, ov, iv] (setItem ov iv new); release [new, ov, iv] []; pure .next) := by
  intro ov iv new
  cases i <;> first | rfl | cases h
theorem keyD_view {K : PySem.W.Frag} {cA : Str → Option Addr} {F H F' H' : Hp} {v : V} {d : D} (hs : SubH F F') (hn : Sub H H') (h : VRep K cA F H v d) (k : ∀ ds, d ≠ .lst ds) (k2 : ∀ ds, d ≠ .dct ds) (k3 : ∀ c gs, d ≠ .obj c gs) : VRep K cA F' H' v d := by
  cases h with
  | rep q => exact .rep (q.mono hs)
  | lst q r => exact absurd rfl (k _)
  | dct q e r => exact absurd rfl (k2 _)
  | obj c q e r n => exact absurd rfl (k3 _ _)
theorem augGet_flat {d di x : D} (h : augGet d di = some x) : (∀ ds, di ≠ .lst ds) ∧ (∀ ds, di ≠ .dct ds) ∧ (∀ c gs, di ≠ .obj c gs) := by
  refine ⟨fun ds e => ?_, fun ds e => ?_, fun c gs e => ?_⟩ <;> (subst e; cases d <;> cases h)
theorem ds_augS {op : Operator} {g : D → D → Option D} {tp : Pos} (ho : OpS (inplaceOp op) g) (hs : notSl b = true) (ha : DE W N sc a fa) (hb : DE W N sc b fb) (hc : DE W N sc c fc) : DS W N sc (.AugAssign (.Subscript a b tp) op c pos) (sAugS g fa fb fc) := by
  intro X gd
  refine PS.imp (ps_augS (ha X gd) (hb X gd) (PGet.star X) (hc X gd) (PIp.star X op) (PSet.star X) (aug_Sub_eq hs)) fun D σ H h => ?_
  obtain ⟨env, M, o, F, κ, e, t, er, q⟩ := h
  unfold sAugS at e
  split at e
  rotate_left
  · cases e
  rename_i so M1 e1
  split at e
  rotate_left
  · cases e
  rename_i si M2 e2
  split at e
  rotate_left
  · cases e
  rename_i d e3
  split at e
  rotate_left
  · cases e
  rename_i di e4
  split at e
  rotate_left
  · cases e
  rename_i x e5
  split at e
  rotate_left
  · cases e
  rename_i s M3 e6
  split at e
  rotate_left
  · cases e
  rename_i y e7
  split at e
  rotate_left
  · cases e
  rename_i z e8
  split at e
  rotate_left
  · cases e
  rename_i M4 e9
  simp only [Option.some.injEq] at e
  subst e
  refine ⟨env, M, so, M1, F, κ, e1, t, er, fun F1 κ1 H1 vo x1 t1 ro => ?_⟩
  refine ⟨env, M1, si, M2, F1, κ1, e2, t1, er.ext x1, fun F2 κ2 H2 vi x2 t2 ri => ?_⟩
  have vd := t2.view (ro.ext x2) e3
  have vi' := t2.view ri e4
  -- behind the read
  have go : ∀ vx, Rep W.K W.cA F2 vx x → tEv W fc σ H2 fun y H4 => ipStar X op vx y H4 fun z H5 => setStar X vo vi z H5 fun H6 => D.nx σ H6 := fun vx rx => by
    refine ⟨env, M2, s, M3, F2, κ2, e6, t2, er.ext (x1.trans x2), fun F3 κ3 H3 vy x3 t3 ry => ?_⟩
    refine ho W N sc X gd F3 H3 vx vy x y z t3.sub (.rep (rx.mono x3.sub)) (t3.view ry e7) e8 _ fun vz F4 H4 n rz => ?_
    obtain ⟨k1, k2, k3⟩ := augGet_flat e5
    have xx := x3.trans (.sub' n.fr)
    have xall := (x1.trans x2).trans xx
    have vi4 : VRep W.K W.cA F4 H4 vi di := by
      cases vi' with
      | rep q => exact .rep (q.mono xx.sub)
      | lst q r => exact absurd rfl (k1 _)
      | dct q e r => exact absurd rfl (k2 _)
      | obj c q e r n => exact absurd rfl (k3 _ _)
    exact set_ok gd (t3.new n) ((ro.ext x2).ext xx) vi4 rz e9 fun H6 t6 => q F4 κ3 H6 σ xall t6 (er.ext xall)
  cases d with
  | lst ds =>
    cases di with
    | int zi =>
      have e5 : (if 0 ≤ zi then atI ds zi else none) = some x := e5
      split at e5
      rotate_left
      · cases e5
      rename_i h0
      obtain ⟨p, vs, rfl, hq, rs⟩ := vd.lst_ t2.sub
      obtain rfl := vi'.int_
      obtain ⟨w, hw, rw'⟩ := atI_rep rs e5
      exact ⟨_, get_list, p, vs, zi, w, rfl, rfl, h0, .of hq, hw, go w rw'⟩
    | _ => cases e5
  | dct kds =>
    have e5 : (match keyD di with | some k => valD kds k | none => none) = some x := e5
    split at e5
    rotate_left
    · cases e5
    rename_i kk ek
    obtain ⟨p, kvs, rfl, hq, en, rs⟩ := vd.dct0 t2.sub
    obtain ⟨w, hw, rw'⟩ := (val_rep en rs).1 x e5
    obtain rfl := keyD_rep vi' ek
    exact ⟨_, get_dict gd.hu, p, w, rfl, by rw [← hw]; exact .inl ⟨kvs, kk, hq, rfl, rfl⟩, go w rw'⟩
  | _ => cases e5
/-! ### xs.append(e) -/
def eAppend (fo fe : EF) : EF := fun env M => match fo env M with
  | some (.hd k, M1) => match M1[k]? with
    | some (.lst _) => match fe env M1 with
      | some (s, M2) => match frz M2 s with
        | some (d, M3) => match M3[k]? with
          | some (.lst ds) => if ds.length < sizeLine then some (.d .non, M3.set k (.lst (ds ++ [d]))) else none
          | _ => none
        | none => none
      | none => none
    | _ => none
  | _ => none
theorem few_args {es : List Expr} (h : es.all notStar = true) (hl : es.length < 30) (pos : Pos) (env : Env) : ((backTo pos (starEach es env)).all (fun x => !x.1) && (backToKw pos (keywordEach [] env)).all (fun x => x.1.isSome)
      && decide (es.length + ([] : List Keyword).length + (if ([] : List Keyword).isEmpty then 0 else 1) < 30)) = true := by
  have hall : (backTo pos (starEach es env)).all (fun x => !x.1) = true := by
    have := plain_args h pos env
    rw [List.all_eq_not_any_not]
    simpa using this
  rw [hall]
  simp [keywordEach, backToKw, hl]
theorem de_append {apos : Pos} (hb : notSuper a = true) (hst : notStar b = true) (hline : (apos.endLine == pos.line) = true) (ha : DE W N sc a fa) (hbb : DE W N sc b fb) :
    DE W N sc (.Call (.Attribute a "append" apos) [b] [] pos) (eAppend fa fb) := by
  intro X gd
  have hss : [b].all notStar = true := by simp [hst]
  refine PE.imp (pe_bm PySem.F.plainAttrs_list PySem.F.slot_list_append PySem.F.type_list_append mt_append (ha X gd) (pa_cons (hbb X gd) pa_nil (star_cons hst _ _)) (attr_base hb _ _) (few_args hss (by simp) _ _) hline (star_cons hst _ _) (plain_args (by rfl) _ _)) fun σ H Q h => ?_
  obtain ⟨env, M, s', M', F, κ, e, t, er, k⟩ := h
  unfold eAppend at e
  split at e
  rotate_left
  · cases e
  rename_i kk M1 e1
  split at e
  rotate_left
  · cases e
  rename_i ds0 e2
  split at e
  rotate_left
  · cases e
  rename_i s M2 e3
  split at e
  rotate_left
  · cases e
  rename_i d M3 e4
  split at e
  rotate_left
  · cases e
  rename_i ds e5
  split at e
  rotate_left
  · cases e
  rename_i hz
  simp only [Option.some.injEq, Prod.mk.injEq] at e
  obtain ⟨rfl, rfl⟩ := e
  refine ⟨env, M, _, M1, F, κ, e1, t, er, fun F1 κ1 H1 v x1 t1 r => ?_⟩
  obtain ⟨p, hk, rfl⟩ := r
  obtain ⟨f, vs0, q1, q2⟩ := t1.cell kk p _ hk e2
  refine ⟨.inl ⟨rfl, _, .of q1⟩, ?_⟩
  refine ⟨env, M1, s, M2, F1, κ1, e3, t1, er.ext x1, fun F2 κ2 H2 w x2 t2 rw' => ?_⟩
  obtain ⟨F3, x3, t3, r3⟩ := t2.frz rw' e4
  have hk3 : κ2[kk]? = some p := by
    obtain ⟨_, m, rfl⟩ := x2
    obtain ⟨hl, _⟩ := List.getElem?_eq_some_iff.mp hk
    rw [List.getElem?_append_left hl]; exact hk
  obtain ⟨f3, vs, q3, q4⟩ := t3.cell kk p _ hk3 e5
  refine ⟨p, vs, w, rfl, rfl, q3, by rw [q4.length]; exact hz, ?_⟩
  exact k F3 κ2 _ .non ((x1.trans x2).trans x3) (t3.setc hk3 e5 f3 ⟨f3, _, upd_same, q4.snoc r3⟩) (show Rep W.K W.cA F3 .non .non from .non)
end
end G
/-! What is walked; for, while; comprehensions. -/
namespace G
open PySem L2
abbrev IF := Ev → Ms → Option (List D × Ms)
/-- J yields the data ds -/
def ItOk (W : Wd) (F : Hp) (J : It) (ds : List D) : Prop := ∃ (G : Hp → Prop) (Y : Nat → Hp → V → Hp → Prop), Walk J ds.length G Y ∧ (∀ F1 H, SubH F F1 → SubH F1 H → G H) ∧
  ∀ i H x H' F1 d, ds[i]? = some d → SubH F F1 → SubH F1 H → Y i H x H' → ∃ F2, New F1 H F2 H' ∧ Rep W.K W.cA F2 x d
def tIv (W : Wd) (f : IF) : TI := fun σ H R => ∃ env M ds M' F κ, f env M = some (ds, M') ∧ Stt W.K W.cA F H κ M ∧ EnvR W.K W.cA F κ σ env ∧
  ∀ F' κ' H' J, Ext F κ F' κ' → Stt W.K W.cA F' H' κ' M' → ItOk W F' J ds → R J H'
def DI (W : Wd) (N : List Str) (sc : Scp) (tg e : Expr) (f : IF) : Prop := ∀ X, Gd W N sc X → PI X tg e (tIv W f)
theorem PI.imp {X : Cx} {tg e : Expr} {t t' : TI} (h : PI X tg e t) (i : ∀ σ H Q, t' σ H Q → t σ H Q) : PI X tg e t' := ⟨fun pins s σ H Q I hw => h.run pins s σ H Q I (i σ H Q hw)⟩
def forD (g : GF) (body : SF) : List D → Ev → Ms → Option Out
  | [], env, M => some (.nx env M)
  | d :: ds, env, M => match g (.d d) env M with
    | some (e1, M1) => match body e1 M1 with
      | some (.nx e2 M2) => forD g body ds e2 M2
      | some (.ct e2 M2) => forD g body ds e2 M2
      | some (.bk e2 M2) => some (.nx e2 M2)
      | some (.rt s M2) => some (.rt s M2)
      | none => none
    | none => none
def sFor (fi : IF) (g : GF) (body : SF) : SF := fun env M => match fi env M with
  | some (ds, M1) => forD g body ds env M1
  | none => none
def notSet : Expr → Bool
  | .Set _ _ _ => false
  | _ => true
theorem folded_no {e : Expr} (h : notSet e = true) (env : Env) : ∀ x, foldedSetIterable e env x = pure x := by
  intro x
  unfold foldedSetIterable
  cases e <;> first | rfl | cases h
section
variable {W : Wd} {N : List Str} {sc : Scp} {a b c : Expr} {fa fb fc : EF} {es : List Expr} {st : Stmt} {sts : List Stmt} {pos : Pos}
theorem Gd.never {X : Cx} (gd : Gd W N sc X) : PassesOwn (model X.prog X.w) X.A X.env X.xe := by rw [gd.xe]; exact PassesOwn.never
theorem ds_for {tg it : Expr} {fi : IF} {g : GF} {body : SF} (hs : notSet it = true) (hi : DI W N sc tg it fi) (hg : DG W N sc tg g) (hb : DB W N sc sts body) : DS W N sc (.For tg it sts [] pos) (sFor fi g body) := by
  intro X gd
  refine PS.imp (ps_for gd.never gd.calm (hi X gd) (hg X gd) (hb X gd) (folded_no hs X.env)) fun D σ H h => ?_
  obtain ⟨env, M, o, F, κ, e, t, er, q⟩ := h
  unfold sFor at e
  split at e
  rotate_left
  · cases e
  rename_i ds M1 e1
  refine ⟨env, M, ds, M1, F, κ, e1, t, er, fun F1 κ1 H1 J x1 t1 ok => ?_⟩
  obtain ⟨G, Y, wk, hG, hY⟩ := ok
  refine for_it wk (fun i σ2 H2 => ∃ F2 κ2 env2 M2, Ext F1 κ1 F2 κ2 ∧ Stt W.K W.cA F2 H2 κ2 M2 ∧ EnvR W.K W.cA F2 κ2 σ2 env2 ∧ forD g body (ds.drop i) env2 M2 = some o) ⟨F1, κ1, env, M1, .refl _ _, t1, er.ext x1, e⟩ ?_ ?_ ?_
  · rintro i σ2 H2 _ ⟨F2, κ2, env2, M2, x2, t2, er2, e2⟩
    exact hG F2 H2 x2.sub t2.sub
  · rintro i x σ2 H2 H3 hlt ⟨F2, κ2, env2, M2, x2, t2, er2, e2⟩ hy
    have hd : ds.drop i = ds[i] :: ds.drop (i + 1) := List.drop_eq_getElem_cons hlt
    rw [hd] at e2
    obtain ⟨F3, n3, r3⟩ := hY i H2 x H3 F2 ds[i] (List.getElem?_eq_getElem hlt) x2.sub t2.sub hy
    have x3 : Ext F2 κ2 F3 κ2 := .sub' n3.fr
    unfold forD at e2
    split at e2
    rotate_left
    · cases e2
    rename_i env3 M3 e3
    refine ⟨.d ds[i], env2, M2, env3, M3, F3, κ2, e3, r3, t2.new n3, er2.ext x3, fun F4 κ4 H4 σ4 x4 t4 er4 => ?_⟩
    have xx := (x2.trans x3).trans x4
    split at e2
    · rename_i env5 M5 e5
      exact ⟨env3, M3, _, F4, κ4, e5, t4, er4, fun F5 κ5 H5 σ5 x5 t5 er5 => ⟨F5, κ5, env5, M5, xx.trans x5, t5, er5, e2⟩⟩
    · rename_i env5 M5 e5
      exact ⟨env3, M3, _, F4, κ4, e5, t4, er4, fun F5 κ5 H5 σ5 x5 t5 er5 => ⟨F5, κ5, env5, M5, xx.trans x5, t5, er5, e2⟩⟩
    · rename_i env5 M5 e5
      simp only [Option.some.injEq] at e2
      subst e2
      exact ⟨env3, M3, _, F4, κ4, e5, t4, er4, fun F5 κ5 H5 σ5 x5 t5 er5 => q F5 κ5 H5 σ5 ((x1.trans xx).trans x5) t5 er5⟩
    · rename_i s5 M5 e5
      simp only [Option.some.injEq] at e2
      subst e2
      exact ⟨env3, M3, _, F4, κ4, e5, t4, er4, fun F5 κ5 H5 v x5 t5 r5 => q F5 κ5 H5 v ((x1.trans xx).trans x5) t5 r5⟩
    · cases e2
  · rintro σ2 H2 ⟨F2, κ2, env2, M2, x2, t2, er2, e2⟩
    rw [List.drop_length] at e2
    simp only [forD, Option.some.injEq] at e2
    subst e2
    exact q F2 κ2 H2 σ2 (x1.trans x2) t2 er2
/-! ### while, so many turns at most -/
def whileD (c : TF) (body : SF) : Nat → Ev → Ms → Option Out
  | 0, _, _ => none
  | n + 1, env, M => match c env M with
    | some (false, M1) => some (.nx env M1)
    | some (true, M1) => match body env M1 with
      | some (.nx e2 M2) => whileD c body n e2 M2
      | some (.ct e2 M2) => whileD c body n e2 M2
      | some (.bk e2 M2) => some (.nx e2 M2)
      | some (.rt s M2) => some (.rt s M2)
      | none => none
    | none => none
theorem whileD_mono {c : TF} {body : SF} : ∀ {n m : Nat} {env : Ev} {M : Ms} {o : Out}, n ≤ m → whileD c body n env M = some o → whileD c body m env M = some o
  | 0, _, _, _, _, _, h => by cases h
  | n + 1, 0, _, _, _, hm, _ => by omega
  | n + 1, m + 1, env, M, o, hm, h => by
    unfold whileD at h ⊢
    split at h
    · exact h
    · split at h
      · exact whileD_mono (by omega) h
      · exact whileD_mono (by omega) h
      · exact h
      · exact h
      · cases h
    · cases h
/-- some number of turns is enough -/
def sWhile (n : Nat) (c : TF) (body : SF) : SF := whileD c body n
theorem ds_while {n : Nat} {cf : TF} {body : SF} (hc : DT W N sc c cf) (hb : DB W N sc sts body) : DS W N sc (.While c sts [] pos) (sWhile n cf body) := by
  intro X gd
  refine PS.imp (ps_while gd.never (hc X gd) (hb X gd)) fun D σ H h => ?_
  obtain ⟨env, M, o, F, κ, e, t, er, q⟩ := h
  unfold sWhile at e
  refine ⟨fun m σ2 H2 => ∃ F2 κ2 env2 M2, Ext F κ F2 κ2 ∧ Stt W.K W.cA F2 H2 κ2 M2 ∧ EnvR W.K W.cA F2 κ2 σ2 env2 ∧ whileD cf body m env2 M2 = some o, ⟨n, F, κ, env, M, .refl _ _, t, er, e⟩, ?_⟩
  rintro m σ2 H2 ⟨F2, κ2, env2, M2, x2, t2, er2, e2⟩
  cases m with
  | zero => cases e2
  | succ m =>
    unfold whileD at e2
    split at e2
    · rename_i M3 e3
      simp only [Option.some.injEq] at e2
      subst e2
      exact ⟨env2, M2, _, M3, F2, κ2, e3, t2, er2, fun F3 κ3 H3 x3 t3 => iteF (q F3 κ3 H3 σ2 (x2.trans x3) t3 (er2.ext x3))⟩
    · rename_i M3 e3
      refine ⟨env2, M2, _, M3, F2, κ2, e3, t2, er2, fun F3 κ3 H3 x3 t3 => iteT ?_⟩
      refine ⟨fun σ4 H4 => ∃ F4 κ4 env4 M4, Ext F κ F4 κ4 ∧ Stt W.K W.cA F4 H4 κ4 M4 ∧ EnvR W.K W.cA F4 κ4 σ4 env4 ∧ whileD cf body m env4 M4 = some o, fun σ4 H4 h4 => ⟨m, Nat.lt_succ_self m, h4⟩, ?_⟩
      have xx := x2.trans x3
      split at e2
      · rename_i env5 M5 e5
        exact ⟨env2, M3, _, F3, κ3, e5, t3, er2.ext x3, fun F5 κ5 H5 σ5 x5 t5 er5 => ⟨F5, κ5, env5, M5, xx.trans x5, t5, er5, e2⟩⟩
      · rename_i env5 M5 e5
        exact ⟨env2, M3, _, F3, κ3, e5, t3, er2.ext x3, fun F5 κ5 H5 σ5 x5 t5 er5 => ⟨F5, κ5, env5, M5, xx.trans x5, t5, er5, e2⟩⟩
      · rename_i env5 M5 e5
        simp only [Option.some.injEq] at e2
        subst e2
        exact ⟨env2, M3, _, F3, κ3, e5, t3, er2.ext x3, fun F5 κ5 H5 σ5 x5 t5 er5 => q F5 κ5 H5 σ5 (xx.trans x5) t5 er5⟩
      · rename_i s5 M5 e5
        simp only [Option.some.injEq] at e2
        subst e2
        exact ⟨env2, M3, _, F3, κ3, e5, t3, er2.ext x3, fun F5 κ5 H5 v x5 t5 r5 => q F5 κ5 H5 v (xx.trans x5) t5 r5⟩
      · cases e2
    · cases e2
/-! ### a comprehension's targets -/
def tGc (W : Wd) (f : GF) (vs : List Nat) : TG := fun v σ H Q => ∃ s env M env' M' F κ, f s env M = some (env', M') ∧ SRep W.K W.cA F κ v s ∧ Stt W.K W.cA F H κ M ∧ EnvR W.K W.cA F κ σ env ∧
  ∀ F' κ' H' σ', Ext F κ F' κ' → Stt W.K W.cA F' H' κ' M' → EnvR W.K W.cA F' κ' σ' env' → wipe σ' vs = wipe σ vs → Q σ' H'
def tGcs (W : Wd) (f : GFs) (vs : List Nat) : TGs := fun v σ H Q => ∃ ds env M env' M' F κ, f ds env M = some (env', M') ∧ Reps W.K W.cA F v ds ∧ Stt W.K W.cA F H κ M ∧ EnvR W.K W.cA F κ σ env ∧
  ∀ F' κ' H' σ', Ext F κ F' κ' → Stt W.K W.cA F' H' κ' M' → EnvR W.K W.cA F' κ' σ' env' → wipe σ' vs = wipe σ vs → Q σ' H'
def DGc (W : Wd) (N : List Str) (sc : Scp) (vs : List Nat) (e : Expr) (f : GF) : Prop := ∀ X, Gd W N sc X → PG X e (tGc W f vs)
def DGcs (W : Wd) (N : List Str) (sc : Scp) (vs : List Nat) (es : List Expr) (f : GFs) : Prop := ∀ X, Gd W N sc X → PGs X es (tGcs W f vs)
theorem wipe_get {σ : L2.St} {j : Nat} : ∀ {vs : List Nat}, (wipe σ vs)[j]? = if j ∈ vs then (if j < σ.length then some none else none) else σ[j]?
  | [] => by simp [wipe]
  | v :: vs => by
    unfold wipe
    by_cases hj : v = j
    · subst hj
      by_cases hl : v < σ.length
      · rw [List.getElem?_set_self (by rw [wipe_length]; exact hl)]
        simp [hl]
      · rw [List.getElem?_eq_none (by rw [List.length_set, wipe_length]; omega)]
        simp [hl]
    · rw [List.getElem?_set_ne hj, wipe_get (vs := vs)]
      have : (j ∈ v :: vs) ↔ j ∈ vs := by simp [Ne.symm hj]
      simp only [this]
theorem wipe_set {σ : L2.St} {i : Nat} {o : Option V} {vs : List Nat} (h : i ∈ vs) : wipe (σ.set i o) vs = wipe σ vs := by
  apply List.ext_getElem?
  intro j
  rw [wipe_get, wipe_get, List.length_set]
  by_cases hj : j ∈ vs
  · simp [hj]
  · have : i ≠ j := fun e => hj (e ▸ h)
    simp [hj, List.getElem?_set_ne this]
theorem dgc_var {i : Nat} {x : Str} {vs : List Nat} (hi : N[i]? = some x) (hx : L2.Loc sc.toScope x) (hf : sc.fs x = true ∨ sc.names.lookup x = some .local) (hv : i ∈ vs) : DGc W N sc vs (.Name x pos) (gVar i) := by
  intro X gd
  refine PG.imp (pg_name (i := i) (by rw [gd.eN]; exact gd.nd) (by rw [gd.eN]; exact hi) (by rw [gd.eS]; exact hx) (by rw [gd.eS]; exact hf.imp_left (gd.fn x))) fun v σ H Q h => ?_
  obtain ⟨s, env, M, env', M', F, κ, e, r, t, er, k⟩ := h
  unfold gVar at e
  split at e
  rotate_left
  · cases e
  simp only [Option.some.injEq, Prod.mk.injEq] at e
  obtain ⟨rfl, rfl⟩ := e
  exact k F κ H _ (.refl _ _) t (er.set r) (wipe_set hv)
theorem dgcs_nil {vs : List Nat} : DGcs W N sc vs [] gsNil := by
  intro X gd
  refine PGs.imp pgs_nil fun v σ H Q h => ?_
  obtain ⟨ds, env, M, env', M', F, κ, e, r, t, er, k⟩ := h
  unfold gsNil at e
  split at e
  rotate_left
  · cases e
  simp only [Option.some.injEq, Prod.mk.injEq] at e
  obtain ⟨rfl, rfl⟩ := e
  cases r
  exact ⟨rfl, k F κ H _ (.refl _ _) t er rfl⟩
theorem dgcs_cons {vs : List Nat} {f : GF} {g : GFs} (hs : notStar a = true) (h1 : DGc W N sc vs a f) (h2 : DGcs W N sc vs es g) : DGcs W N sc vs (a :: es) (gsCons f g) := by
  intro X gd
  refine PGs.imp (pgs_cons (h1 X gd) (h2 X gd) (assign_cons hs _ _)) fun v σ H Q h => ?_
  obtain ⟨ds, env, M, env', M', F, κ, e, r, t, er, k⟩ := h
  unfold gsCons at e
  split at e
  rotate_left
  · cases e
  rename_i d rest
  split at e
  rotate_left
  · cases e
  rename_i e1 M1 q1
  cases r with
  | cons r rr =>
    refine ⟨_, _, rfl, .d d, env, M, e1, M1, F, κ, q1, r, t, er, fun F1 κ1 H1 σ1 x1 t1 er1 w1 => ?_⟩
    exact ⟨rest, e1, M1, env', M', F1, κ1, e, rr.mono x1.sub, t1, er1, fun F2 κ2 H2 σ2 x2 t2 er2 w2 => k F2 κ2 H2 σ2 (x1.trans x2) t2 er2 (w2.trans w1)⟩
theorem dgc_tup {j : Nat} {g : GFs} {vs : List Nat} (hs : es.all notStar = true) (h : DGcs W N sc vs es g) : DGc W N sc vs (.Tuple es j pos) (gTupD es.length g) := by
  intro X gd
  refine PG.imp (pg_tup (n := es.length) gd.calm (h X gd) (assign_len _ _) (assign_plain hs _)) fun v σ H Q h => ?_
  obtain ⟨s, env, M, env', M', F, κ, e, r, t, er, k⟩ := h
  unfold gTupD at e
  split at e
  rotate_left
  · cases e
  rename_i ds e1
  split at e
  rotate_left
  · cases e
  rename_i hl
  obtain ⟨p, vs, rfl, hq, rs⟩ := (t.view r e1).tup_ t.sub
  exact ⟨p, vs, rfl, by rw [gd.K]; exact hq, by rw [rs.length]; exact hl, ds, env, M, env', M', F, κ, e, rs, t, er, k⟩
end
/-! ### comprehensions -/
def wipeE (env : Ev) : List Nat → Ev
  | [] => env
  | v :: vs => (wipeE env vs).set v none
theorem EnvR.wipe {K : PySem.W.Frag} {cA : Str → Option Addr} {F : Hp} {κ : List Addr} {σ : L2.St} {env : Ev} (h : EnvR K cA F κ σ env) : ∀ vs : List Nat, EnvR K cA F κ (L2.wipe σ vs) (wipeE env vs)
  | [] => h
  | v :: vs => (EnvR.wipe h vs).unset
/-- turn by turn; the list that is made stands in the k-th cell -/
def lcD (g : GF) (c : TF) (f : EF) (vs : List Nat) (k : Nat) : List D → Ev → Ms → Option Ms
  | [], _, M => some M
  | d :: ds, env, M => match g (.d d) (wipeE env vs) M with
    | some (e1, M1) => match c e1 M1 with
      | some (false, M2) => lcD g c f vs k ds env M2
      | some (true, M2) => match f e1 M2 with
        | some (s, M3) => match frz M3 s with
          | some (y, M4) => match M4[k]? with
            | some (.lst acc) => if acc.length < sizeLine then lcD g c f vs k ds env (M4.set k (.lst (acc ++ [y]))) else none
            | _ => none
          | none => none
        | none => none
      | none => none
    | none => none
def cLc (fi : IF) (g : GF) (c : TF) (f : EF) (vs : List Nat) : CF := fun env M => match fi env M with
  | some (ds, M1) => match lcD g c f vs M1.length ds env (M1 ++ [.lst []]) with
    | some M2 => match M2[M1.length]? with
      | some (.lst ys) => some (.lst ys, M2.take M1.length)
      | _ => none
    | none => none
  | none => none
def tTrue : TF := fun _ M => some (true, M)
theorem wipe_idem {σ : L2.St} {vs : List Nat} : L2.wipe (L2.wipe σ vs) vs = L2.wipe σ vs := by
  apply List.ext_getElem?
  intro j
  rw [wipe_get, wipe_get, wipe_length]
  by_cases hj : j ∈ vs <;> simp [hj]
/-- a clause's tests -/
def DTs (W : Wd) (N : List Str) (sc : Scp) (ifs : List Expr) (f : TF) : Prop := ∀ X, Gd W N sc X → PTs X ifs (tTv W f)
section
variable {W : Wd} {N : List Str} {sc : Scp} {a b c : Expr} {fa fb fc : EF} {es : List Expr} {st : Stmt} {sts : List Stmt} {pos : Pos}
theorem PTs.imp {X : Cx} {es : List Expr} {t t' : TT} (h : PTs X es t) (i : ∀ σ H Q, t' σ H Q → t σ H Q) : PTs X es t' := ⟨fun pins s σ H Q I hw => h.run pins s σ H Q I (i σ H Q hw)⟩
theorem dts_nil : DTs W N sc [] tTrue := by
  intro X gd
  refine PTs.imp pts_nil fun σ H Q h => ?_
  obtain ⟨env, M, k0, M', F, κ, e, t, er, k⟩ := h
  simp only [tTrue, Option.some.injEq, Prod.mk.injEq] at e
  obtain ⟨rfl, rfl⟩ := e
  exact k F κ H (.refl _ _) t
theorem dts_one {f : TF} (h : DT W N sc a f) : DTs W N sc [a] f := fun X gd => pts_one (h X gd)
/-- the scope within a comprehension -/
def blkS (scope : Scope) (sc : Scp) : Scp := { relS scope sc.toScope with fs := fun x => scope.names.lookup x == some .cell }
theorem Gd.blk {X : Cx} (gd : Gd W N sc X) {scope : Scope} (s : Shared) (H : Hp) (C : Addr) (cl : List (Str × Addr)) (fp : List Addr) : Gd W N (blkS scope sc) (X.blk s H scope (compEnvC scope cl C X.env) fp) := by
  refine ⟨gd.prog, gd.w, gd.K, gd.mg, gd.base, gd.eN, ?_, gd.calm, gd.hr, gd.nd, fun x hx => hx, rfl⟩
  show (compEnvC scope cl C X.env).scope = relS scope sc.toScope
  rw [← gd.eS]
  rfl
theorem tLc_of {X : Cx} (gd : Gd W N sc X) {fi : IF} {g : GF} {cf : TF} {f : EF} {vs : List Nat} : ∀ σ H Q, tFr W (cLc fi g cf f vs) σ H Q → tLc (tIv W fi) (tGc W g vs) (tTv W cf) (tEv W f) vs σ H Q := by
  intro σ H Q h
  obtain ⟨env, M, c0, M', F, κ, e, t, er, k⟩ := h
  unfold cLc at e
  split at e
  rotate_left
  · cases e
  rename_i ds M1 e1
  split at e
  rotate_left
  · cases e
  rename_i M2 e2
  split at e
  rotate_left
  · cases e
  rename_i ys e3
  simp only [Option.some.injEq, Prod.mk.injEq] at e
  obtain ⟨rfl, rfl⟩ := e
  refine ⟨env, M, ds, M1, F, κ, e1, t, er, fun F1 κ1 H1 J x1 t1 ok => fun D hD => ?_⟩
  obtain ⟨G, Y, wk, hG, hY⟩ := ok
  have er1 := er.ext x1
  have n0 : New F1 H1 F1 (upd H1 D (.lst [])) := New.oneH t1.sub hD
  have t1' : Stt W.K W.cA F1 (upd H1 D (.lst [])) (κ1 ++ [D]) (M1 ++ [.lst []]) := t1.push hD n0 (c := .lst []) ⟨t1.sub.none hD, [], upd_same, .nil⟩ (fun d z => by cases z)
  have hkD : (κ1 ++ [D])[M1.length]? = some D := by rw [← t1.len]; simp
  refine lc_it wk (fun i H2 => ∃ F2 κ2 M3, Ext F1 (κ1 ++ [D]) F2 κ2 ∧ Stt W.K W.cA F2 H2 κ2 M3 ∧ lcD g cf f vs M1.length (ds.drop i) env M3 = some M2) ⟨F1, κ1 ++ [D], _, .refl _ _, t1', e2⟩ ?_ ?_ ?_
  · rintro i H2 _ ⟨F2, κ2, M3, x2, t2, q2⟩
    exact hG F2 H2 x2.sub t2.sub
  · rintro i x H2 H3 hlt ⟨F2, κ2, M3, x2, t2, q2⟩ hy
    have hd : ds.drop i = ds[i] :: ds.drop (i + 1) := List.drop_eq_getElem_cons hlt
    rw [hd] at q2
    obtain ⟨F3, n3, r3⟩ := hY i H2 x H3 F2 ds[i] (List.getElem?_eq_getElem hlt) x2.sub t2.sub hy
    have x3 : Ext F2 κ2 F3 κ2 := .sub' n3.fr
    unfold lcD at q2
    split at q2
    rotate_left
    · cases q2
    rename_i env3 M4 e4
    have xF : Ext F1 κ1 F3 κ2 := (Ext.trans ⟨.refl _, [D], rfl⟩ x2).trans x3
    refine ⟨.d ds[i], wipeE env vs, M3, env3, M4, F3, κ2, e4, r3, t2.new n3, (er1.ext xF).wipe vs, fun F4 κ4 H4 σ4 x4 t4 er4 w4 => ⟨by rw [w4, wipe_idem], ?_⟩⟩
    split at q2
    · rename_i M5 e5
      exact ⟨env3, M4, _, M5, F4, κ4, e5, t4, er4, fun F5 κ5 H5 x5 t5 => iteF ⟨F5, κ5, M5, ((x2.trans x3).trans x4).trans x5, t5, q2⟩⟩
    · rename_i M5 e5
      refine ⟨env3, M4, _, M5, F4, κ4, e5, t4, er4, fun F5 κ5 H5 x5 t5 => iteT ?_⟩
      split at q2
      rotate_left
      · cases q2
      rename_i s6 M6 e6
      split at q2
      rotate_left
      · cases q2
      rename_i y M7 e7
      split at q2
      rotate_left
      · cases q2
      rename_i acc e8
      split at q2
      rotate_left
      · cases q2
      rename_i hz
      refine ⟨env3, M5, s6, M6, F5, κ5, e6, t5, er4.ext x5, fun F6 κ6 H6 v x6 t6 r6 => ?_⟩
      obtain ⟨F7, x7, t7, r7⟩ := t6.frz r6 e7
      have xx := (((x2.trans x3).trans x4).trans x5).trans (x6.trans x7)
      have hk : κ6[M1.length]? = some D := by
        obtain ⟨_, m, hm⟩ := xx
        rw [hm, List.getElem?_append_left (by rw [← t1.len]; simp)]
        exact hkD
      obtain ⟨f7, vs7, q7, r8⟩ := t7.cell _ D _ hk e8
      refine ⟨vs7, q7, by rw [r8.length]; exact hz, F7, κ6, _, xx, t7.setc hk e8 f7 (c' := .lst (acc ++ [y])) ⟨f7, _, upd_same, r8.snoc r7⟩, q2⟩
    · cases q2
  · rintro H2 ⟨F2, κ2, M3, x2, t2, q2⟩
    rw [List.drop_length] at q2
    simp only [lcD, Option.some.injEq] at q2
    subst q2
    obtain ⟨hs, m, hm⟩ := x2
    have hk : κ2[M1.length]? = some D := by rw [hm, List.getElem?_append_left (by rw [← t1.len]; simp)]; exact hkD
    have q := t2.cell _ D _ hk e3
    have hl : M1.length = κ1.length := t1.len.symm
    have eκ : κ2.take M1.length = κ1 := by rw [hm, hl]; simp
    have t3 := t2.take M1.length
    rw [eκ] at t3
    have hn : D ∉ κ1 := fun hm' => by
      have h1 := t2.nd
      rw [hm] at h1
      have h2 : (κ1 ++ [D]).Nodup := h1.sublist (List.sublist_append_left _ _)
      rw [List.nodup_append] at h2
      exact h2.2.2 D hm' D (by simp) rfl
    exact k F2 κ1 H2 D (x1.trans ⟨hs, [], by simp⟩) t3 hn rfl q
theorem de_lc {elt tg iter : Expr} {ifs : List Expr} {scope : Scope} {own : List (Str × Nat)} {fi : IF} {g : GF} {cf : TF} {f : EF} (ok : BlkOk N sc.toScope scope own) (hs : notSet iter = true) (hi : DI W N sc tg iter fi) (hg : DGc W N (blkS scope sc) (own.map (·.2)) tg g) (hc : DTs W N (blkS scope sc) ifs cf)
    (he : DE W N (blkS scope sc) elt f) : DF W N sc (.ListComp elt [⟨tg, iter, ifs, 0⟩] scope pos) (cLc fi g cf f (own.map (·.2))) := by
  intro X gd
  refine PE.imp (pe_lc gd.calm (by rw [gd.eN]; exact gd.nd) (hi X gd) (by rw [gd.eN, gd.eS]; exact ok) (fun s H C cl fp => hg _ (gd.blk s H C cl fp)) (fun s H C cl fp => hc _ (gd.blk s H C cl fp)) (fun s H C cl fp => he _ (gd.blk s H C cl fp)) (folded_no hs _)) (tLc_of gd)
/-- x = [..] on one line, x a local -/
theorem ds_lc {x : Str} {px : Pos} {i : Nat} {elt tg iter : Expr} {ifs : List Expr} {scope : Scope} {own : List (Str × Nat)} {fi : IF} {g : GF} {cf : TF} {f : EF} {cpos : Pos} (hi0 : N[i]? = some x) (hx : sc.names.lookup x = some .local)
    (hsw : pureOf (swapsWith (.ListComp elt [⟨tg, iter, ifs, 0⟩] scope cpos) (some (.Name x px)) pos.line (envD sc.toScope)) = some true)
    (ok : BlkOk N sc.toScope scope own) (hs : notSet iter = true) (hi : DI W N sc tg iter fi) (hg : DGc W N (blkS scope sc) (own.map (·.2)) tg g) (hc : DTs W N (blkS scope sc) ifs cf) (he : DE W N (blkS scope sc) elt f) :
    DS W N sc (.Assign [.Name x px] (.ListComp elt [⟨tg, iter, ifs, 0⟩] scope cpos) pos) (sAsg (eTree (cLc fi g cf f (own.map (·.2)))) (gVar i)) ∧
    DS W N sc (.Assign [.Name x px] (.ListComp elt [⟨tg, iter, ifs, 0⟩] scope cpos) pos) (sAsg (eLive (cLc fi g cf f (own.map (·.2)))) (gVar i)) := by
  have key : ∀ X, Gd W N sc X → PS X (.Assign [.Name x px] (.ListComp elt [⟨tg, iter, ifs, 0⟩] scope cpos) pos) (tAsg (tFr W (cLc fi g cf f (own.map (·.2)))) (gName i)) := fun X gd =>
    PS.imp (ps_setLc (i := i) gd.calm (by rw [gd.eN]; exact gd.nd) (by rw [gd.eN]; exact hi0) (by rw [gd.eS]; exact hx) (swaps_of hsw _ gd.eS) (hi X gd) (by rw [gd.eN, gd.eS]; exact ok) (fun s H C cl fp => hg _ (gd.blk s H C cl fp)) (fun s H C cl fp => hc _ (gd.blk s H C cl fp))
      (fun s H C cl fp => he _ (gd.blk s H C cl fp)) (folded_no hs _)) fun D σ H h => tLc_of gd σ H _ h
  constructor
  · intro X gd
    refine PS.imp (key X gd) fun D σ H h => ?_
    obtain ⟨env, M, o, F, κ, e, t, er, k⟩ := h
    unfold sAsg at e
    split at e
    rotate_left
    · cases e
    rename_i s M1 e1
    split at e
    rotate_left
    · cases e
    rename_i e' M2 e2
    simp only [Option.some.injEq] at e
    subst e
    unfold eTree at e1
    split at e1
    rotate_left
    · cases e1
    rename_i c0 M3 e3
    simp only [Option.some.injEq, Prod.mk.injEq] at e1
    obtain ⟨rfl, rfl⟩ := e1
    unfold gVar at e2
    split at e2
    rotate_left
    · cases e2
    simp only [Option.some.injEq, Prod.mk.injEq] at e2
    obtain ⟨rfl, rfl⟩ := e2
    refine ⟨env, M, c0, M3, F, κ, e3, t, er, fun F1 κ1 H1 p x1 t1 hp hn r => ?_⟩
    obtain ⟨fp, o, ho, rep⟩ := r.tree hn
    have xx := x1.trans (.sub' (SubH.upd (o := o) fp))
    exact k _ κ1 H1 _ xx (t1.addF hp fp ho) ((er.ext xx).set rep)
  · intro X gd
    refine PS.imp (key X gd) fun D σ H h => ?_
    obtain ⟨env, M, o, F, κ, e, t, er, k⟩ := h
    unfold sAsg at e
    split at e
    rotate_left
    · cases e
    rename_i s M1 e1
    split at e
    rotate_left
    · cases e
    rename_i e' M2 e2
    simp only [Option.some.injEq] at e
    subst e
    unfold eLive at e1
    split at e1
    rotate_left
    · cases e1
    rename_i c0 M3 e3
    simp only [Option.some.injEq, Prod.mk.injEq] at e1
    obtain ⟨rfl, rfl⟩ := e1
    unfold gVar at e2
    split at e2
    rotate_left
    · cases e2
    simp only [Option.some.injEq, Prod.mk.injEq] at e2
    obtain ⟨rfl, rfl⟩ := e2
    refine ⟨env, M, c0, M3, F, κ, e3, t, er, fun F1 κ1 H1 p x1 t1 hp hn r => ?_⟩
    have xx : Ext F κ F1 (κ1 ++ [p]) := x1.trans ⟨.refl _, [p], rfl⟩
    exact k _ (κ1 ++ [p]) H1 _ xx (t1.addC hp (notFrz_ne hn) r) ((er.ext xx).set ⟨p, by rw [← t1.len]; simp, rfl⟩)
end
end G
/-! What is walked: lists, tuples, texts, ranges, enumerate, zip, dicts. -/
namespace G
open PySem L2
def walkOf : D → Option (List D)
  | .lst ds => some ds
  | .tup ds => some ds
  | .scr ns => some (ns.map D.int)
  | .str z => some (z.cps.toList.map fun c => .str ⟨#[c]⟩)
  | _ => none
def iSeq (fa : EF) : IF := fun env M => match fa env M with
  | some (s, M1) => match frz M1 s with
    | some (d, M2) => match walkOf d with
      | some ds => some (ds, M2)
      | none => none
    | none => none
  | none => none
def iOr (w1 w2 : TI) : TI := fun σ H R => w1 σ H R ∨ w2 σ H R
theorem pi_or {X : Cx} {tg e : Expr} {t t' : TI} (h : PI X tg e t) (h' : PI X tg e t') : PI X tg e (iOr t t') := ⟨fun pins s σ H R I hw => hw.elim (h.run pins s σ H R I) (h'.run pins s σ H R I)⟩
section
variable {W : Wd} {N : List Str} {sc : Scp} {a b c : Expr} {fa fb fc : EF} {es : List Expr} {st : Stmt} {sts : List Stmt} {pos : Pos} {tg : Expr}
theorem itok_list {F : Hp} {p : Addr} {vs : List V} {ds : List D} (hq : SqL W.K F p vs) (r : Reps W.K W.cA F vs ds) : ItOk W F (Itl W.K p) ds := by
  refine ⟨_, _, by rw [← r.length]; exact walk_list (K := W.K) (a := p) (xs := vs), fun F1 H hs h1 => h1.sqL (hs.sqL hq), fun i H x H' F1 d hd hs h1 hy => ?_⟩
  obtain ⟨rfl, hx⟩ := hy
  obtain ⟨v, hv, rv⟩ := r.get hd
  rw [hx] at hv
  cases hv
  exact ⟨F1, New.refl h1, rv.mono hs⟩
theorem itok_tup {F : Hp} {p : Addr} {vs : List V} {ds : List D} (hq : SqT W.K F p vs) (r : Reps W.K W.cA F vs ds) : ItOk W F (Itt W.K p) ds := by
  refine ⟨_, _, by rw [← r.length]; exact walk_tup (K := W.K) (a := p) (xs := vs), fun F1 H hs h1 => h1.sqT (hs.sqT hq), fun i H x H' F1 d hd hs h1 hy => ?_⟩
  obtain ⟨rfl, hx⟩ := hy
  obtain ⟨v, hv, rv⟩ := r.get hd
  rw [hx] at hv
  cases hv
  exact ⟨F1, New.refl h1, rv.mono hs⟩
theorem itok_str {F : Hp} {z : Str} : ItOk W F (Its z) (z.cps.toList.map fun c => .str ⟨#[c]⟩) := by
  refine ⟨_, _, by rw [List.length_map, Array.length_toList]; exact walk_str (z := z), fun F1 H hs h1 => trivial, fun i H x H' F1 d hd hs h1 hy => ?_⟩
  obtain ⟨rfl, c, hc, rfl⟩ := hy
  rw [List.getElem?_map, Array.getElem?_toList, hc] at hd
  cases hd
  exact ⟨F1, New.refl h1, .str _⟩
theorem di_seq (ha : DE W N sc a fa) : DI W N sc tg a (iSeq fa) := by
  intro X gd
  refine PI.imp (pi_or (pi_list (ha X gd)) (pi_or (pi_tup (ha X gd)) (pi_str (ha X gd)))) fun σ H R h => ?_
  obtain ⟨env, M, ds, M', F, κ, e, t, er, k⟩ := h
  unfold iSeq at e
  split at e
  rotate_left
  · cases e
  rename_i s M1 e1
  split at e
  rotate_left
  · cases e
  rename_i d M2 e2
  split at e
  rotate_left
  · cases e
  rename_i ds' e3
  simp only [Option.some.injEq, Prod.mk.injEq] at e
  obtain ⟨rfl, rfl⟩ := e
  cases d with
  | lst xs =>
    cases e3
    refine .inl ⟨env, M, s, M1, F, κ, e1, t, er, fun F1 κ1 H1 v x1 t1 r => ?_⟩
    obtain ⟨F2, x2, t2, r2⟩ := t1.frz r e2
    rw [gd.K]
    cases r2 with
    | lst q rs => exact ⟨_, rfl, ⟨_, t2.sub.sqL (.of q)⟩, k F2 κ1 H1 _ (x1.trans x2) t2 (itok_list (.of q) rs)⟩
  | tup xs =>
    cases e3
    refine .inr (.inl ⟨env, M, s, M1, F, κ, e1, t, er, fun F1 κ1 H1 v x1 t1 r => ?_⟩)
    obtain ⟨F2, x2, t2, r2⟩ := t1.frz r e2
    rw [gd.K]
    cases r2 with
    | tup q rs => exact ⟨_, rfl, ⟨_, t2.sub.sqT q⟩, k F2 κ1 H1 _ (x1.trans x2) t2 (itok_tup q rs)⟩
  | scr xs =>
    cases e3
    refine .inl ⟨env, M, s, M1, F, κ, e1, t, er, fun F1 κ1 H1 v x1 t1 r => ?_⟩
    obtain ⟨F2, x2, t2, r2⟩ := t1.frz r e2
    rw [gd.K]
    cases r2 with
    | scr q => exact ⟨_, rfl, ⟨_, t2.sub.sqL q⟩, k F2 κ1 H1 _ (x1.trans x2) t2 (itok_list q .ints)⟩
  | str z =>
    cases e3
    refine .inr (.inr ⟨env, M, s, M1, F, κ, e1, t, er, fun F1 κ1 H1 v x1 t1 r => ?_⟩)
    obtain ⟨F2, x2, t2, r2⟩ := t1.frz r e2
    cases r2 with
    | str => exact ⟨_, rfl, k F2 κ1 H1 _ (x1.trans x2) t2 itok_str⟩
  | _ => cases e3
/-! ### range -/
def rangeD (lo : Int) (n : Nat) : List D := (List.range n).map fun (i : Nat) => .int (lo + (i : Nat))
def iRange1 (fa : EF) : IF := fun env M => match fa env M with
  | some (s, M1) => match view M1 s with
    | some (.int n) => if -(2 ^ 62) ≤ n ∧ n < 2 ^ 62 then some (rangeD 0 n.toNat, M1) else none
    | _ => none
  | none => none
def iRange2 (fa fb : EF) : IF := fun env M => match fa env M with
  | some (s, M1) => match fb env M1 with
    | some (s', M2) => match view M2 s with
      | some (.int i) => match view M2 s' with
        | some (.int j) => if -(2 ^ 62) ≤ i ∧ i < 2 ^ 62 ∧ -(2 ^ 62) ≤ j ∧ j < 2 ^ 62 then some (rangeD i (j - i).toNat, M2) else none
        | _ => none
      | _ => none
    | none => none
  | none => none
theorem itok_range {F : Hp} {lo : Int} {n : Nat} : ItOk W F (Itr lo n) (rangeD lo n) := by
  refine ⟨_, _, by rw [rangeD, List.length_map, List.length_range]; exact walk_range (lo := lo) (n := n), fun F1 H hs h1 => trivial, fun i H x H' F1 d hd hs h1 hy => ?_⟩
  obtain ⟨rfl, rfl⟩ := hy
  have hi : i < n := by
    obtain ⟨hl, _⟩ := List.getElem?_eq_some_iff.mp hd
    simpa [rangeD] using hl
  have : d = .int (lo + i) := by
    simp only [rangeD, List.getElem?_map, List.getElem?_range hi, Option.map_some, Option.some.injEq] at hd
    exact hd.symm
  subst this
  exact ⟨F1, New.refl h1, .int _⟩
theorem star1 {a : Expr} (h : notStar a = true) (env : Env) : starEach [a] env = [(false, eval a env)] := star_cons h [] env
theorem di_range1 {p : Pos} (hf : Free W sc "range") (hst : notStar a = true) (ha : DE W N sc a fa) : DI W N sc tg (.Call (.Name "range" p) [a] [] pos) (iRange1 fa) := by
  intro X gd
  refine PI.imp (pi_range1 (gd.gl hf.1) (by rw [gd.mg]; exact hf.2) (pa_cons (ha X gd) pa_nil (star_cons hst _ _)) (star1 hst _)) fun σ H R h => ?_
  obtain ⟨env, M, ds, M', F, κ, e, t, er, k⟩ := h
  unfold iRange1 at e
  split at e
  rotate_left
  · cases e
  rename_i s M1 e1
  split at e
  rotate_left
  · cases e
  rename_i n e2
  split at e
  rotate_left
  · cases e
  rename_i hb
  simp only [Option.some.injEq, Prod.mk.injEq] at e
  obtain ⟨rfl, rfl⟩ := e
  refine ⟨env, M, s, M1, F, κ, e1, t, er, fun F1 κ1 H1 v x1 t1 r => ?_⟩
  obtain rfl := (t1.view r e2).int_
  exact ⟨n, rfl, hb.1, hb.2, k F1 κ1 H1 _ x1 t1 itok_range⟩
theorem di_range2 {p : Pos} (hf : Free W sc "range") (hst : notStar a = true) (hst2 : notStar b = true) (ha : DE W N sc a fa) (hb : DE W N sc b fb) : DI W N sc tg (.Call (.Name "range" p) [a, b] [] pos) (iRange2 fa fb) := by
  intro X gd
  refine PI.imp (pi_range2 (gd.gl hf.1) (by rw [gd.mg]; exact hf.2) (pa_cons (ha X gd) (pa_cons (hb X gd) pa_nil (star_cons hst2 _ _)) (star_cons hst _ _)) (by rw [star_cons hst, star1 hst2]) (star1 hst2 _)) fun σ H R h => ?_
  obtain ⟨env, M, ds, M', F, κ, e, t, er, k⟩ := h
  unfold iRange2 at e
  split at e
  rotate_left
  · cases e
  rename_i s M1 e1
  split at e
  rotate_left
  · cases e
  rename_i s' M2 e2
  split at e
  rotate_left
  · cases e
  rename_i i e3
  split at e
  rotate_left
  · cases e
  rename_i j e4
  split at e
  rotate_left
  · cases e
  rename_i hbd
  simp only [Option.some.injEq, Prod.mk.injEq] at e
  obtain ⟨rfl, rfl⟩ := e
  refine ⟨env, M, s, M1, F, κ, e1, t, er, fun F1 κ1 H1 v x1 t1 r => ?_⟩
  refine ⟨env, M1, s', M2, F1, κ1, e2, t1, er.ext x1, fun F2 κ2 H2 v2 x2 t2 r2 => ?_⟩
  obtain rfl := (t2.view (r.ext x2) e3).int_
  obtain rfl := (t2.view r2 e4).int_
  exact ⟨i, j, rfl, hbd, k F2 κ2 H2 _ (x1.trans x2) t2 itok_range⟩
/-! ### enumerate, zip -/
def enumD (ds : List D) : List D := (List.range ds.length).zipWith (fun (i : Nat) d => D.tup [.int (i : Nat), d]) ds
def zipD (ds es : List D) : List D := ds.zipWith (fun x y => .tup [x, y]) es
theorem new_pair {F F1 H : Hp} {T : Addr} {x y : V} {d e : D} (h1 : SubH F1 H) (hT : H T = none) (rx : Rep W.K W.cA F1 x d) (ry : Rep W.K W.cA F1 y e) : ∃ F2, New F1 H F2 (upd H T (.tup [x, y])) ∧ Rep W.K W.cA F2 (.ref T) (.tup [d, e]) := by
  have n := New.one (o := .tup [x, y]) h1 hT
  exact ⟨_, n, .tup (.inl (.inl upd_same)) (.cons (rx.mono n.fr) (.cons (ry.mono n.fr) .nil))⟩
theorem itok_enum {F : Hp} {p : Addr} {vs : List V} {ds : List D} (hq : SqL W.K F p vs) (r : Reps W.K W.cA F vs ds) : ItOk W F (Ite W.K p) (enumD ds) := by
  refine ⟨_, _, by simp only [enumD, List.length_zipWith, List.length_range, Nat.min_self]; rw [← r.length]; exact walk_enum (K := W.K) (a := p) (xs := vs), fun F1 H hs h1 => h1.sqL (hs.sqL hq), fun i H x H' F1 d hd hs h1 hy => ?_⟩
  obtain ⟨T, x1, y1, rfl, hT, rfl, hx, hy⟩ := hy
  cases hx
  obtain ⟨d1, hd1, rd⟩ := r.getV hy
  have hi : i < ds.length := (List.getElem?_eq_some_iff.mp hd1).1
  have : d = .tup [.int (i : Nat), d1] := by
    simp only [enumD, List.getElem?_zipWith, List.getElem?_range hi, hd1, Option.some.injEq] at hd
    exact hd.symm
  subst this
  exact new_pair (F := F) h1 hT (.int _) (rd.mono hs)
theorem itok_zip {F : Hp} {p q : Addr} {vs ws : List V} {ds es : List D} (hp : SqL W.K F p vs) (hq : SqL W.K F q ws) (r : Reps W.K W.cA F vs ds) (r2 : Reps W.K W.cA F ws es) : ItOk W F (Itz W.K p q) (zipD ds es) := by
  refine ⟨_, _, walk_zip (K := W.K) (a := p) (b := q) (xs := vs) (ys := ws) (by simp only [zipD, List.length_zipWith]; rw [r.length, r2.length]), fun F1 H hs h1 => ⟨h1.sqL (hs.sqL hp), h1.sqL (hs.sqL hq)⟩, fun i H x H' F1 d hd hs h1 hy => ?_⟩
  obtain ⟨T, x1, y1, rfl, hT, rfl, hx, hy⟩ := hy
  obtain ⟨d1, hd1, rd⟩ := r.getV hx
  obtain ⟨d2, hd2, rd2⟩ := r2.getV hy
  have : d = .tup [d1, d2] := by
    simp only [zipD, List.getElem?_zipWith, hd1, hd2, Option.some.injEq] at hd
    exact hd.symm
  subst this
  exact new_pair (F := F) h1 hT (rd.mono hs) (rd2.mono hs)
def iEnum (fa : EF) : IF := fun env M => match fa env M with
  | some (s, M1) => match frz M1 s with
    | some (.lst ds, M2) => some (enumD ds, M2)
    | _ => none
  | none => none
theorem di_enum {p tpos : Pos} {elts : List Expr} {kk : Nat} (hf : Free W sc "enumerate") (hst : notStar a = true) (ha : DE W N sc a fa) : DI W N sc (.Tuple elts kk tpos) (.Call (.Name "enumerate" p) [a] [] pos) (iEnum fa) := by
  intro X gd
  refine PI.imp (pi_enum (gd.gl hf.1) (by rw [gd.mg]; exact hf.2) (pa_cons (ha X gd) pa_nil (star_cons hst _ _)) (star1 hst _)) fun σ H R h => ?_
  obtain ⟨env, M, ds, M', F, κ, e, t, er, k⟩ := h
  unfold iEnum at e
  split at e
  rotate_left
  · cases e
  rename_i s M1 e1
  split at e
  rotate_left
  · cases e
  rename_i ds' M2 e2
  simp only [Option.some.injEq, Prod.mk.injEq] at e
  obtain ⟨rfl, rfl⟩ := e
  refine ⟨env, M, s, M1, F, κ, e1, t, er, fun F1 κ1 H1 v x1 t1 r => ?_⟩
  obtain ⟨F2, x2, t2, r2⟩ := t1.frz r e2
  rw [gd.K]
  cases r2 with
  | lst q rs => exact ⟨_, _, rfl, t2.sub.sqL (.of q), k F2 κ1 H1 _ (x1.trans x2) t2 (itok_enum (.of q) rs)⟩
def iZip (fa fb : EF) : IF := fun env M => match fa env M with
  | some (s, M1) => match fb env M1 with
    | some (s', M2) => match frz M2 s with
      | some (.lst ds, M3) => match frz M3 s' with
        | some (.lst es, M4) => some (zipD ds es, M4)
        | _ => none
      | _ => none
    | none => none
  | none => none
theorem di_zip {p tpos : Pos} {elts : List Expr} {kk : Nat} (hf : Free W sc "zip") (hst : notStar a = true) (hst2 : notStar b = true) (ha : DE W N sc a fa) (hb : DE W N sc b fb) : DI W N sc (.Tuple elts kk tpos) (.Call (.Name "zip" p) [a, b] [] pos) (iZip fa fb) := by
  intro X gd
  refine PI.imp (RZ.pi_zipA (gd.gl hf.1) (by rw [gd.mg]; exact hf.2) (pa_cons (ha X gd) (pa_cons (hb X gd) pa_nil (star_cons hst2 _ _)) (star_cons hst _ _)) (star_cons hst _ _) (plain_args (by simp [hst2]) _ _)) fun σ H R h => ?_
  obtain ⟨env, M, ds, M', F, κ, e, t, er, k⟩ := h
  unfold iZip at e
  split at e
  rotate_left
  · cases e
  rename_i s M1 e1
  split at e
  rotate_left
  · cases e
  rename_i s' M2 e2
  split at e
  rotate_left
  · cases e
  rename_i ds' M3 e3
  split at e
  rotate_left
  · cases e
  rename_i es' M4 e4
  simp only [Option.some.injEq, Prod.mk.injEq] at e
  obtain ⟨rfl, rfl⟩ := e
  refine ⟨env, M, s, M1, F, κ, e1, t, er, fun F1 κ1 H1 v x1 t1 r => ?_⟩
  refine ⟨env, M1, s', M2, F1, κ1, e2, t1, er.ext x1, fun F2 κ2 H2 v2 x2 t2 r2 => ?_⟩
  obtain ⟨F3, x3, t3, r3⟩ := t2.frz (r.ext x2) e3
  obtain ⟨F4, x4, t4, r4⟩ := t3.frz (r2.ext x3) e4
  have r3' := r3.mono x4.sub
  rw [gd.K]
  cases r3' with
  | lst q rs => cases r4 with
    | lst q2 rs2 => exact ⟨_, _, _, _, rfl, .inl ⟨t4.sub.sqL (.of q), t4.sub.sqL (.of q2), k F4 κ2 H2 _ (((x1.trans x2).trans x3).trans x4) t4 (itok_zip (.of q) (.of q2) rs rs2)⟩⟩
end
end G
/-! Operators on data; truths. -/
namespace G
open PySem L2
/-! ### data as plain data -/
mutual
def D.py : D → Option PyData
  | .non => some .none
  | .bl b => some (.bool b)
  | .int i => some (.int i)
  | .str x => if PyData.strOk x then some (.str x) else none
  | .tup ds => match pys ds with
    | some xs => some (.tuple xs)
    | none => none
  | .lst ds => match pys ds with
    | some xs => some (.list xs)
    | none => none
  | .scr ns => some (.list (ns.map PyData.int))
  | .dct _ => none
  | .obj _ _ => none
def pys : List D → Option (List PyData)
  | [] => some []
  | d :: r => match D.py d with
    | some x => match pys r with
      | some xs => some (x :: xs)
      | none => none
    | none => none
end
theorem py_tup {ds : List D} {d : PyData} (h : D.py (.tup ds) = some d) : ∃ xs, pys ds = some xs ∧ d = .tuple xs := by
  unfold D.py at h
  split at h
  · rename_i xs e; cases h; exact ⟨xs, e, rfl⟩
  · cases h
theorem py_lst {ds : List D} {d : PyData} (h : D.py (.lst ds) = some d) : ∃ xs, pys ds = some xs ∧ d = .list xs := by
  unfold D.py at h
  split at h
  · rename_i xs e; cases h; exact ⟨xs, e, rfl⟩
  · cases h
theorem pys_cons {d : D} {r : List D} {ys : List PyData} (h : pys (d :: r) = some ys) : ∃ x xs, D.py d = some x ∧ pys r = some xs ∧ ys = x :: xs := by
  unfold pys at h
  split at h
  rotate_left
  · cases h
  rename_i x e1
  split at h
  rotate_left
  · cases h
  rename_i xs e2
  cases h
  exact ⟨x, xs, e1, e2, rfl⟩
mutual
theorem py_can : ∀ {d : D} {p : PyData}, D.py d = some p → p.canLay0 = true
  | .non, p, h => by unfold D.py at h; cases h; rfl
  | .bl b, p, h => by unfold D.py at h; cases h; rfl
  | .int b, p, h => by unfold D.py at h; cases h; rfl
  | .str b, p, h => by
    unfold D.py at h
    split at h
    · rename_i e; cases h; simpa [PyData.canLay0] using e
    · cases h
  | .tup ds, p, h => by
    obtain ⟨xs, e, rfl⟩ := py_tup h
    simp only [PyData.canLay0]
    exact pys_can e
  | .lst ds, p, h => by
    obtain ⟨xs, e, rfl⟩ := py_lst h
    simp only [PyData.canLay0]
    exact pys_can e
  | .scr ns, p, h => by
    unfold D.py at h
    cases h
    simp only [PyData.canLay0]
    induction ns with
    | nil => rfl
    | cons n ns ih => simp only [List.map_cons, PyData.canLayAll0, PyData.canLay0, ih, Bool.and_self]
  | .dct _, p, h => by unfold D.py at h; cases h
  | .obj _ _, p, h => by unfold D.py at h; cases h
theorem pys_can : ∀ {ds : List D} {ps : List PyData}, pys ds = some ps → PyData.canLayAll0 ps = true
  | [], ps, h => by unfold pys at h; cases h; rfl
  | d :: ds, ps, h => by
    obtain ⟨x, xs, e1, e2, rfl⟩ := pys_cons h
    simp only [PyData.canLayAll0, py_can e1, pys_can e2, Bool.and_self]
end
theorem dpAll_ints {K : PySem.W.Frag} {H : Hp} : ∀ ns : List Int, DpAll K H (ns.map V.int) (ns.map PyData.int)
  | [] => .nil
  | n :: ns => .cons (.int n) (dpAll_ints ns)
section
variable {K : PySem.W.Frag} {cA : Str → Option Addr} {F H : Hp}
mutual
theorem Rep.dp (hs : SubH F H) : ∀ {d : D} {v : V} {p : PyData}, Rep K cA F v d → D.py d = some p → Dp K H v p
  | .non, v, p, r, h => by unfold D.py at h; cases h; cases r; exact .non
  | .bl b, v, p, r, h => by unfold D.py at h; cases h; cases r; exact .bl b
  | .int b, v, p, r, h => by unfold D.py at h; cases h; cases r; exact .int b
  | .str b, v, p, r, h => by
    unfold D.py at h
    split at h
    · cases h; cases r; exact .str b
    · cases h
  | .tup ds, v, p, r, h => by
    obtain ⟨xs, e, rfl⟩ := py_tup h
    cases r with | tup q rs => exact .tup (hs.sqT q) (Reps.dp hs rs e)
  | .lst ds, v, p, r, h => by
    obtain ⟨xs, e, rfl⟩ := py_lst h
    cases r with | lst q rs => exact .lst (.of (hs.lst q)) (Reps.dp hs rs e)
  | .scr ns, v, p, r, h => by
    unfold D.py at h
    cases h
    cases r with | scr q => exact .lst (hs.sqL q) (dpAll_ints ns)
  | .dct _, v, p, r, h => by unfold D.py at h; cases h
  | .obj _ _, v, p, r, h => by unfold D.py at h; cases h
theorem Reps.dp (hs : SubH F H) : ∀ {ds : List D} {vs : List V} {ps : List PyData}, Reps K cA F vs ds → pys ds = some ps → DpAll K H vs ps
  | [], vs, ps, r, h => by unfold pys at h; cases h; cases r; exact .nil
  | d :: ds, vs, ps, r, h => by
    obtain ⟨x, xs, e1, e2, rfl⟩ := pys_cons h
    cases r with | cons r rr => exact .cons (Rep.dp hs r e1) (Reps.dp hs rr e2)
end
theorem VRep.dp (hs : SubH F H) {v : V} {d : D} {p : PyData} (h : VRep K cA F H v d) (e : D.py d = some p) : Dp K H v p := by
  cases h with
  | rep r => exact r.dp hs e
  | lst q rs =>
    obtain ⟨xs, e2, rfl⟩ := py_lst e
    exact .lst (.of q) (rs.dp hs e2)
  | dct q e2 rs => unfold D.py at e; cases e
  | obj c q e2 rs n => unfold D.py at e; cases e
end
/-- numbers, texts, truths, None: what == asks -/
def eqS : D → D → Option Bool
  | .non, .non => some true
  | .bl a, .bl b => some (a == b)
  | .int a, .int b => some (decide (a = b))
  | .str a, .str b => some (decide (a = b))
  | .non, .int _ => some false
  | .int _, .non => some false
  | .non, .str _ => some false
  | .str _, .non => some false
  | .non, .bl _ => some false
  | .bl _, .non => some false
  | .int _, .str _ => some false
  | .str _, .int _ => some false
  | .bl _, .str _ => some false
  | .str _, .bl _ => some false
  | _, _ => none
def eqP (x y : D) : Option Bool := match D.py x with
  | some d => match D.py y with
    | some e => if d.depth ≤ 64 ∧ e.depth ≤ 64 then some (PyData.eqv d e) else none
    | none => none
  | none => none
/-- flat things that are the same -/
def flatEq : D → D → Bool
  | .non, .non => true
  | .bl a, .bl b => a == b
  | .int a, .int b => decide (a = b)
  | .str a, .str b => decide (a = b)
  | _, _ => false
/-- dicts of the same keys and flat things -/
def dctSame (ks ls : List (Key × D)) : Bool := decide (ks.length = ls.length) && ks.all fun p => match valD ls p.1 with
  | some d => flatEq p.2 d
  | none => false
def eqC (x y : D) : Option Bool := match x, y with
  | .dct ks, .dct ls => if dctSame ks ls then some true else none
  | x, y => eqP x y
def eqD (x y : D) : Option Bool := match eqS x y with
  | some b => some b
  | none => eqC x y
def gEq (x y : D) : Option D := match eqD x y with
  | some b => some (.bl b)
  | none => none
def gNe (x y : D) : Option D := match eqD x y with
  | some b => some (.bl (!b))
  | none => none
theorem VRep.sc {K : PySem.W.Frag} {cA : Str → Option Addr} {F H : Hp} {x y : V} {dx dy : D} {b : Bool} (hx : VRep K cA F H x dx) (hy : VRep K cA F H y dy) (e : eqS dx dy = some b) : scal x y = true ∧ decide (x = y) = b := by
  have f : ∀ {v : V} {d : D}, VRep K cA F H v d → (d = .non → v = .non) ∧ (∀ b, d = .bl b → v = .bl b) ∧ (∀ b, d = .int b → v = .int b) ∧ (∀ b, d = .str b → v = .str b) := fun {v d} r => by
    refine ⟨fun e => ?_, fun b e => ?_, fun b e => ?_, fun b e => ?_⟩ <;> (subst e; cases r with | rep r => cases r; rfl)
  obtain ⟨x1, x2, x3, x4⟩ := f hx
  obtain ⟨y1, y2, y3, y4⟩ := f hy
  cases dx <;> cases dy <;> first | (cases e; done) | skip
  all_goals first
    | (cases x1 rfl; cases y1 rfl; cases e; exact ⟨rfl, by simp⟩)
    | (cases x1 rfl; cases y2 _ rfl; cases e; exact ⟨rfl, by simp⟩)
    | (cases x1 rfl; cases y3 _ rfl; cases e; exact ⟨rfl, by simp⟩)
    | (cases x1 rfl; cases y4 _ rfl; cases e; exact ⟨rfl, by simp⟩)
    | (cases x2 _ rfl; cases y1 rfl; cases e; exact ⟨rfl, by simp⟩)
    | (cases x2 _ rfl; cases y2 _ rfl; cases e; exact ⟨rfl, dec_bl⟩)
    | (cases x2 _ rfl; cases y4 _ rfl; cases e; exact ⟨rfl, by simp⟩)
    | (cases x3 _ rfl; cases y1 rfl; cases e; exact ⟨rfl, by simp⟩)
    | (cases x3 _ rfl; cases y3 _ rfl; cases e; exact ⟨rfl, by simp⟩)
    | (cases x3 _ rfl; cases y4 _ rfl; cases e; exact ⟨rfl, by simp⟩)
    | (cases x4 _ rfl; cases y1 rfl; cases e; exact ⟨rfl, by simp⟩)
    | (cases x4 _ rfl; cases y2 _ rfl; cases e; exact ⟨rfl, by simp⟩)
    | (cases x4 _ rfl; cases y3 _ rfl; cases e; exact ⟨rfl, by simp⟩)
    | (cases x4 _ rfl; cases y4 _ rfl; cases e; exact ⟨rfl, by simp⟩)
theorem Gd.hu64 {W : Wd} {N : List Str} {sc : Scp} {X : Cx} (gd : Gd W N sc X) : X.A.units + 65 < cLine := by
  have := gd.hr.un
  omega
theorem eqP_some {x y : D} {b : Bool} (h : eqP x y = some b) : ∃ d e, D.py x = some d ∧ D.py y = some e ∧ d.depth ≤ 64 ∧ e.depth ≤ 64 ∧ b = PyData.eqv d e := by
  unfold eqP at h
  split at h
  rotate_left
  · cases h
  rename_i d e1
  split at h
  rotate_left
  · cases h
  rename_i e e2
  split at h
  rotate_left
  · cases h
  rename_i hd
  cases h
  exact ⟨d, e, e1, e2, hd.1, hd.2, rfl⟩
theorem shaped_py {x : D} {d : PyData} (h : D.py x = some d) (hd : d.depth ≤ 64) : SeqAt.shaped d = true := by
  unfold SeqAt.shaped
  rw [py_can h, decide_eq_true hd]; rfl
theorem op_eqDk {X : Cx} (hu : X.A.units < cLine) : OpR X (compareOp .Eq) (fun x y H Q => ∃ a b ks ls, x = .ref a ∧ y = .ref b ∧ Rd H a (.dK ks) ∧ Rd H b (.dK ls) ∧ ks.length = ls.length ∧ (∀ p ∈ ks, valV ls p.1 = some p.2 ∧ flatB p.2 = true) ∧ Q (.bl true) H) := by
  intro pins s σ H x y v u Q I rx ry h
  obtain ⟨a, b, ks, ls, ex, ey, ea, eb, hlen, hp, q⟩ := h
  subst ex ey
  cases rx; cases ry
  obtain ⟨_, h1, va, ra, da⟩ := dk_rd I.hok ea
  obtain ⟨_, h2, vb, rb, db⟩ := dk_rd I.hok eb
  exact PySem.W.keq_eq (knd := mixKind X.prog X.w) (r := true) h1 h2 da db hu (fun _ => hits_all rb ra hp) (fin_bl I q (by simp [← ra.length, ← rb.length, hlen]))
theorem op_neDk {X : Cx} (hu : X.A.units < cLine) : OpR X (compareOp .NotEq) (fun x y H Q => ∃ a b ks ls, x = .ref a ∧ y = .ref b ∧ Rd H a (.dK ks) ∧ Rd H b (.dK ls) ∧ ks.length = ls.length ∧ (∀ p ∈ ks, valV ls p.1 = some p.2 ∧ flatB p.2 = true) ∧ Q (.bl false) H) := by
  intro pins s σ H x y v u Q I rx ry h
  obtain ⟨a, b, ks, ls, ex, ey, ea, eb, hlen, hp, q⟩ := h
  subst ex ey
  cases rx; cases ry
  obtain ⟨_, h1, va, ra, da⟩ := dk_rd I.hok ea
  obtain ⟨_, h2, vb, rb, db⟩ := dk_rd I.hok eb
  exact PySem.W.keq_ne (knd := mixKind X.prog X.w) (r := true) h1 h2 da db hu (fun _ => hits_all rb ra hp) (fin_bl I q (by simp [← ra.length, ← rb.length, hlen]))
theorem flatEq_rep {K : PySem.W.Frag} {cA : Str → Option Addr} {F : Hp} {v w : V} {d e : D} (h : flatEq d e = true) (r : Rep K cA F v d) (r' : Rep K cA F w e) : w = v ∧ flatB v = true := by
  cases d <;> cases e <;> first | (cases h; done) | skip
  · cases r; cases r'; exact ⟨rfl, rfl⟩
  · cases r; cases r'; have := eq_of_beq h; subst this; exact ⟨rfl, rfl⟩
  · cases r; cases r'; have := of_decide_eq_true h; subst this; exact ⟨rfl, rfl⟩
  · cases r; cases r'; have := of_decide_eq_true h; subst this; exact ⟨rfl, rfl⟩
theorem dctSame_rep {K : PySem.W.Frag} {cA : Str → Option Addr} {F : Hp} {ks ls : List (Key × D)} {kvs lvs : List (Key × V)} (h : dctSame ks ls = true) (e1 : kvs.map (·.1) = ks.map (·.1)) (r1 : Reps K cA F (kvs.map (·.2)) (ks.map (·.2))) (e2 : lvs.map (·.1) = ls.map (·.1)) (r2 : Reps K cA F (lvs.map (·.2)) (ls.map (·.2))) :
    kvs.length = lvs.length ∧ ∀ p ∈ kvs, valV lvs p.1 = some p.2 ∧ flatB p.2 = true := by
  unfold dctSame at h
  obtain ⟨h1, h2⟩ := Bool.and_eq_true_iff.mp h
  have l1 : kvs.length = ks.length := by simpa using congrArg List.length e1
  have l2 : lvs.length = ls.length := by simpa using congrArg List.length e2
  refine ⟨by rw [l1, l2]; exact of_decide_eq_true h1, fun p hp => ?_⟩
  obtain ⟨i, hi, ei⟩ := List.mem_iff_getElem.mp hp
  have hv : (kvs.map (·.2))[i]? = some p.2 := by rw [List.getElem?_map, List.getElem?_eq_getElem hi, ei]; rfl
  obtain ⟨d, hd, rd⟩ := r1.getV hv
  have hk : (ks.map (·.1))[i]? = some p.1 := by rw [← e1, List.getElem?_map, List.getElem?_eq_getElem hi, ei]; rfl
  rw [List.getElem?_map] at hd hk
  cases e : ks[i]? with
  | none => rw [e] at hd; cases hd
  | some q =>
    rw [e] at hd hk
    have hq := List.all_eq_true.mp h2 q (List.mem_of_getElem? e)
    cases hd
    have hk : q.1 = p.1 := Option.some.inj hk
    rw [hk] at hq
    cases e3 : valD ls p.1 with
    | none => rw [e3] at hq; cases hq
    | some d' =>
      rw [e3] at hq
      obtain ⟨w, hw, rw'⟩ := (val_rep (k := p.1) e2 r2).1 d' e3
      obtain ⟨z1, z2⟩ := flatEq_rep hq rd rw'
      rw [hw, z1]
      exact ⟨rfl, z2⟩
theorem eqC_some {x y : D} {b : Bool} (h : eqC x y = some b) : eqP x y = some b ∨ (b = true ∧ ∃ ks ls, x = .dct ks ∧ y = .dct ls ∧ dctSame ks ls = true) := by
  unfold eqC at h
  split at h
  · split at h
    · rename_i ks ls hh; cases h; exact .inr ⟨rfl, _, _, rfl, rfl, hh⟩
    · cases h
  · exact .inl h
theorem ops_eq : OpS (compareOp .Eq) gEq := by
  intro W N sc X gd F H x y dx dy r hs hx hy e Q k
  unfold gEq eqD at e
  cases e1 : eqS dx dy with
  | some b =>
    simp only [e1, Option.some.injEq] at e
    subst e
    obtain ⟨h1, h2⟩ := hx.sc hy e1
    exact ⟨rEq, op_eq, h1, by rw [h2]; exact k _ F H (.refl hs) (.bl b)⟩
  | none =>
    simp only [e1] at e
    cases e2 : eqC dx dy with
    | none => simp [e2] at e
    | some b =>
      simp only [e2, Option.some.injEq] at e
      subst e
      rcases eqC_some e2 with e2 | ⟨rfl, ks, ls, rfl, rfl, hh⟩
      rotate_left
      · obtain ⟨p, kvs, rfl, q1, n1, r1⟩ := hx.dct0 hs
        obtain ⟨p2, lvs, rfl, q2, n2, r2⟩ := hy.dct0 hs
        obtain ⟨z1, z2⟩ := dctSame_rep hh n1 r1 n2 r2
        exact ⟨_, op_eqDk (by have := gd.hu64; omega), p, p2, kvs, lvs, rfl, rfl, q1, q2, z1, z2, k _ F H (.refl hs) (.bl _)⟩
      obtain ⟨d, e', p1, p2, h1, h2, rfl⟩ := eqP_some e2
      exact ⟨rEqD X.K, op_eqD (by have := gd.hu64; omega), d, e', by rw [gd.K]; exact hx.dp hs p1, by rw [gd.K]; exact hy.dp hs p2, shaped_py p1 h1, shaped_py p2 h2, k _ F H (.refl hs) (.bl _)⟩
theorem ops_ne : OpS (compareOp .NotEq) gNe := by
  intro W N sc X gd F H x y dx dy r hs hx hy e Q k
  unfold gNe eqD at e
  cases e1 : eqS dx dy with
  | some b =>
    simp only [e1, Option.some.injEq] at e
    subst e
    obtain ⟨h1, h2⟩ := hx.sc hy e1
    exact ⟨rNe, op_ne, h1, by rw [h2]; exact k _ F H (.refl hs) (.bl _)⟩
  | none =>
    simp only [e1] at e
    cases e2 : eqC dx dy with
    | none => simp [e2] at e
    | some b =>
      simp only [e2, Option.some.injEq] at e
      subst e
      rcases eqC_some e2 with e2 | ⟨rfl, ks, ls, rfl, rfl, hh⟩
      rotate_left
      · obtain ⟨p, kvs, rfl, q1, n1, r1⟩ := hx.dct0 hs
        obtain ⟨p2, lvs, rfl, q2, n2, r2⟩ := hy.dct0 hs
        obtain ⟨z1, z2⟩ := dctSame_rep hh n1 r1 n2 r2
        exact ⟨_, op_neDk (by have := gd.hu64; omega), p, p2, kvs, lvs, rfl, rfl, q1, q2, z1, z2, k _ F H (.refl hs) (.bl _)⟩
      obtain ⟨d, e', p1, p2, h1, h2, rfl⟩ := eqP_some e2
      exact ⟨rNeD X.K, op_neD (by have := gd.hu64; omega), d, e', by rw [gd.K]; exact hx.dp hs p1, by rw [gd.K]; exact hy.dp hs p2, shaped_py p1 h1, shaped_py p2 h2, k _ F H (.refl hs) (.bl _)⟩
theorem Rep.tup_ {K : PySem.W.Frag} {cA : Str → Option Addr} {F : Hp} {v : V} {ds : List D} (h : Rep K cA F v (.tup ds)) : ∃ p vs, v = .ref p ∧ SqT K F p vs ∧ Reps K cA F vs ds := by
  cases h with | tup q r => exact ⟨_, _, rfl, q, r⟩
/-! ### numbers -/
def gI (g : Int → Int → D) : D → D → Option D
  | .int i, .int j => some (g i j)
  | _, _ => none
theorem ops_i0 {f : Value → Value → Sem Value} {gV : Int → Int → V} {g : Int → Int → D} (ho : ∀ X, OpR X f (rI0 gV)) (hg : ∀ K cA F i j, Rep K cA F (gV i j) (g i j)) : OpS f (gI g) := by
  intro W N sc X gd F H x y dx dy r hs hx hy e Q k
  cases dx with
  | int i => cases dy with
    | int j =>
      cases e
      obtain rfl := hx.int_
      obtain rfl := hy.int_
      exact ⟨_, ho X, i, j, rfl, rfl, k _ F H (.refl hs) (hg _ _ _ i j)⟩
    | _ => cases e
  | _ => cases e
theorem ops_lt : OpS (compareOp .Lt) (gI fun i j => .bl (decide (i < j))) := ops_i0 (fun X => op_lt) fun _ _ _ _ _ => .bl _
theorem ops_le : OpS (compareOp .LtE) (gI fun i j => .bl (decide (i ≤ j))) := ops_i0 (fun X => op_le) fun _ _ _ _ _ => .bl _
theorem ops_gt : OpS (compareOp .Gt) (gI fun i j => .bl (decide (j < i))) := ops_i0 (fun X => op_gt) fun _ _ _ _ _ => .bl _
theorem ops_ge : OpS (compareOp .GtE) (gI fun i j => .bl (decide (j ≤ i))) := ops_i0 (fun X => op_ge) fun _ _ _ _ _ => .bl _
theorem ops_sub : OpS (binaryOp .Sub) (gI fun i j => .int (i - j)) := ops_i0 (fun X => op_sub) fun _ _ _ _ _ => .int _
theorem ops_isub : OpS (inplaceOp .Sub) (gI fun i j => .int (i - j)) := ops_i0 (fun X => iop_sub) fun _ _ _ _ _ => .int _
/-- + -/
def gAdd : D → D → Option D
  | .int i, .int j => some (.int (i + j))
  | .str x, .str y => if x.length + y.length ≤ sizeLine then some (.str (x ++ y)) else none
  | .lst ds, .lst es => if ds.length + es.length ≤ sizeLine then some (.lst (ds ++ es)) else none
  | .tup ds, .tup es => if ds.length + es.length ≤ sizeLine then some (.tup (ds ++ es)) else none
  | _, _ => none
theorem ops_add : OpS (binaryOp .Add) gAdd := by
  intro W N sc X gd F H x y dx dy r hs hx hy e Q k
  cases dx with
  | int i => cases dy with
    | int j =>
      cases e
      obtain rfl := hx.int_
      obtain rfl := hy.int_
      exact ⟨_, op_add, i, j, rfl, rfl, k _ F H (.refl hs) (.int _)⟩
    | _ => cases e
  | str i => cases dy with
    | str j =>
      have e : (if i.length + j.length ≤ sizeLine then some (D.str (i ++ j)) else none) = some r := e
      split at e
      · rename_i hz
        cases e
        obtain rfl := hx.str_
        obtain rfl := hy.str_
        exact ⟨_, op_add_str, i, j, rfl, rfl, hz, k _ F H (.refl hs) (.str _)⟩
      · cases e
    | _ => cases e
  | lst ds => cases dy with
    | lst es =>
      have e : (if ds.length + es.length ≤ sizeLine then some (D.lst (ds ++ es)) else none) = some r := e
      split at e
      · rename_i hz
        cases e
        obtain ⟨p, vs, rfl, q1, r1⟩ := hx.lst_ hs
        obtain ⟨p2, ws, rfl, q2, r2⟩ := hy.lst_ hs
        refine ⟨_, op_cat, p, p2, vs, ws, rfl, rfl, q1, q2, by rw [r1.length, r2.length]; exact hz, fun z hz => ?_⟩
        have n := New.one (o := .lst (vs ++ ws)) hs hz
        exact k _ _ _ n (.lst upd_same ((r1.append r2).mono n.fr))
      · cases e
    | _ => cases e
  | tup ds => cases dy with
    | tup es =>
      have e : (if ds.length + es.length ≤ sizeLine then some (D.tup (ds ++ es)) else none) = some r := e
      split at e
      · rename_i hz
        cases e
        obtain ⟨p, vs, rfl, q1, r1⟩ := hx.tupF.tup_
        obtain ⟨p2, ws, rfl, q2, r2⟩ := hy.tupF.tup_
        refine ⟨_, op_catA, p, p2, vs, ws, rfl, rfl, by rw [gd.K]; exact hs.sqT q1, by rw [gd.K]; exact hs.sqT q2, by rw [r1.length, r2.length]; exact hz, fun e1 => ?_, fun e1 e2 => ?_, fun e1 e2 z hz => ?_⟩
        · subst e1
          have := r1.length
          have e3 : ds = [] := by cases ds with | nil => rfl | cons _ _ => simp at this
          subst e3
          exact k _ F H (.refl hs) (.tup q2 r2)
        · subst e2
          have := r2.length
          have e3 : es = [] := by cases es with | nil => rfl | cons _ _ => simp at this
          subst e3
          rw [List.append_nil] at k
          exact k _ F H (.refl hs) (.tup q1 r1)
        · have n := New.one (o := .tup (vs ++ ws)) hs hz
          exact k _ _ _ n (.tup (.inl (.inl upd_same)) ((r1.append r2).mono n.fr))
      · cases e
    | _ => cases e
  | _ => cases e
/-- name += .. -/
def gIadd : D → D → Option D
  | .int i, .int j => some (.int (i + j))
  | .str x, .str y => if x.length + y.length ≤ sizeLine then some (.str (x ++ y)) else none
  | _, _ => none
theorem ops_iadd : OpS (inplaceOp .Add) gIadd := by
  intro W N sc X gd F H x y dx dy r hs hx hy e Q k
  cases dx with
  | int i => cases dy with
    | int j =>
      cases e
      obtain rfl := hx.int_
      obtain rfl := hy.int_
      exact ⟨_, iop_add, i, j, rfl, rfl, k _ F H (.refl hs) (.int _)⟩
    | _ => cases e
  | str i => cases dy with
    | str j =>
      have e : (if i.length + j.length ≤ sizeLine then some (D.str (i ++ j)) else none) = some r := e
      split at e
      · rename_i hz
        cases e
        obtain rfl := hx.str_
        obtain rfl := hy.str_
        exact ⟨_, iop_add_str, i, j, rfl, rfl, hz, k _ F H (.refl hs) (.str _)⟩
      · cases e
    | _ => cases e
  | _ => cases e
def mulOk (i j : Int) : Bool := decide (-(2 ^ 64) < i ∧ i < 2 ^ 64) || decide (-(2 ^ 64) < j ∧ j < 2 ^ 64)
def gMul : D → D → Option D
  | .int i, .int j => if mulOk i j then some (.int (i * j)) else none
  | _, _ => none
theorem mulOk_ok {i j : Int} (h : mulOk i j = true) : CMul i j := by
  unfold mulOk at h
  rcases Bool.or_eq_true_iff.mp h with h | h
  · exact .inl (of_decide_eq_true h)
  · exact .inr (of_decide_eq_true h)
theorem ops_mulG {f : Value → Value → Sem Value} (ho : ∀ X, OpR X f (rI CMul fun i j => .int (i * j))) : OpS f gMul := by
  intro W N sc X gd F H x y dx dy r hs hx hy e Q k
  cases dx with
  | int i => cases dy with
    | int j =>
      have e : (if mulOk i j then some (D.int (i * j)) else none) = some r := e
      split at e
      · rename_i hz
        cases e
        obtain rfl := hx.int_
        obtain rfl := hy.int_
        exact ⟨_, ho X, i, j, rfl, rfl, mulOk_ok hz, k _ F H (.refl hs) (.int _)⟩
      · cases e
    | _ => cases e
  | _ => cases e
theorem ops_mul : OpS (binaryOp .Mult) gMul := ops_mulG fun X => op_mul
theorem ops_imul : OpS (inplaceOp .Mult) gMul := ops_mulG fun X => iop_mul
def gDiv : D → D → Option D
  | .int i, .int j => if 0 < j ∧ j < 1073741824 then some (.int (i / j)) else none
  | _, _ => none
theorem ops_div : OpS (binaryOp .FloorDiv) gDiv := by
  intro W N sc X gd F H x y dx dy r hs hx hy e Q k
  cases dx with
  | int i => cases dy with
    | int j =>
      have e : (if 0 < j ∧ j < 1073741824 then some (D.int (i / j)) else none) = some r := e
      split at e
      · rename_i hz
        cases e
        obtain rfl := hx.int_
        obtain rfl := hy.int_
        exact ⟨_, op_fdiv, i, j, rfl, rfl, hz, k _ F H (.refl hs) (.int _)⟩
      · cases e
    | _ => cases e
  | _ => cases e
def gMod : D → D → Option D
  | .int i, .int j => if 0 < j then some (.int (i % j)) else none
  | _, _ => none
theorem ops_mod : OpS (binaryOp .Mod) gMod := by
  intro W N sc X gd F H x y dx dy r hs hx hy e Q k
  cases dx with
  | int i => cases dy with
    | int j =>
      have e : (if 0 < j then some (D.int (i % j)) else none) = some r := e
      split at e
      · rename_i hz
        cases e
        obtain rfl := hx.int_
        obtain rfl := hy.int_
        exact ⟨_, op_mod, i, j, rfl, rfl, hz, k _ F H (.refl hs) (.int _)⟩
      · cases e
    | _ => cases e
  | _ => cases e
def gPow : D → D → Option D
  | .int i, .int j => if 0 ≤ j ∧ j ≤ 1000000 ∧ i.natAbs < 2 ^ 64 then some (.int (i ^ j.toNat)) else none
  | _, _ => none
theorem ops_pow : OpS (binaryOp .Pow) gPow := by
  intro W N sc X gd F H x y dx dy r hs hx hy e Q k
  cases dx with
  | int i => cases dy with
    | int j =>
      have e : (if 0 ≤ j ∧ j ≤ 1000000 ∧ i.natAbs < 2 ^ 64 then some (D.int (i ^ j.toNat)) else none) = some r := e
      split at e
      · rename_i hz
        cases e
        obtain rfl := hx.int_
        obtain rfl := hy.int_
        exact ⟨_, op_pow, i, j, rfl, rfl, hz, k _ F H (.refl hs) (.int _)⟩
      · cases e
    | _ => cases e
  | _ => cases e
def gNeg : D → Option D
  | .int i => some (.int (-i))
  | _ => none
theorem uns_neg : UnS (unaryOp .USub) gNeg := by
  intro W N sc X gd F H x dx r hs hx e Q k
  cases dx with
  | int i =>
    cases e
    obtain rfl := hx.int_
    exact ⟨_, un_neg, i, rfl, k _ F H (.refl hs) (.int _)⟩
  | _ => cases e
/-! ### is None -/
def isN : D → Bool
  | .non => true
  | _ => false
def gIs (x y : D) : Option D := match y with
  | .non => some (.bl (isN x))
  | _ => none
def gIsNot (x y : D) : Option D := match y with
  | .non => some (.bl (!isN x))
  | _ => none
theorem VRep.isN {K : PySem.W.Frag} {cA : Str → Option Addr} {F H : Hp} {x : V} {d : D} (h : VRep K cA F H x d) : decide (x = .non) = G.isN d := by
  cases h with
  | rep r => cases r <;> simp [G.isN]
  | _ => simp [G.isN]
theorem ops_is : OpS (compareOp .Is) gIs := by
  intro W N sc X gd F H x y dx dy r hs hx hy e Q k
  cases dy with
  | non =>
    cases e
    cases hy with | rep q => cases q; exact ⟨_, op_isN, rfl, by rw [hx.isN]; exact k _ F H (.refl hs) (.bl _)⟩
  | _ => cases e
theorem ops_isnot : OpS (compareOp .IsNot) gIsNot := by
  intro W N sc X gd F H x y dx dy r hs hx hy e Q k
  cases dy with
  | non =>
    cases e
    cases hy with | rep q => cases q; exact ⟨_, op_notN, rfl, by rw [hx.isN]; exact k _ F H (.refl hs) (.bl _)⟩
  | _ => cases e
/-! ### in -/
def inP (x : D) (ds : List D) : Option Bool := match D.py x with
  | some d => match pys ds with
    | some es => if d.depth ≤ 64 then some (es.any fun z => PyData.eqv z d) else none
    | none => none
  | none => none
def inD : D → D → Option Bool
  | .str x, .str y => match x.cps.toList with
    | [c] => some (decide (c ∈ y.cps.toList))
    | _ => none
  | x, .tup ds => inP x ds
  | x, .lst ds => inP x ds
  | x, .dct kds => match keyD x with
    | some k => some (valD kds k).isSome
    | none => none
  | _, _ => none
def gIn (x y : D) : Option D := match inD x y with
  | some b => some (.bl b)
  | none => none
def gNotIn (x y : D) : Option D := match inD x y with
  | some b => some (.bl (!b))
  | none => none
theorem op_inTup {X : Cx} (hu : X.A.units + 65 < cLine) : OpR X (compareOp .In) (fun x y H Q => ∃ d ds, Dp X.K H x d ∧ Dp X.K H y (.tuple ds) ∧ SeqAt.shaped d = true ∧ PyData.canLayAll0 ds = true ∧ Q (.bl (ds.any fun z => PyData.eqv z d)) H) := by
  intro pins s σ H x y v u Q I rx ry h
  obtain ⟨d, ds, hd, he, sd, se, q⟩ := h
  obtain ⟨as, r1⟩ := Dp.reads I d x v hd rx
  obtain ⟨bs, r2⟩ := Dp.reads I (.tuple ds) y u he ry
  exact SeqAt.in_tuple_reads r2 r1 se (SeqAt.canLay_of_shaped sd) (PyProof.Rows.room_in_shaped sd hu) ⟨.bl _, H, I, rfl, q⟩
theorem op_notInTup {X : Cx} (hu : X.A.units + 65 < cLine) : OpR X (compareOp .NotIn) (fun x y H Q => ∃ d ds, Dp X.K H x d ∧ Dp X.K H y (.tuple ds) ∧ SeqAt.shaped d = true ∧ PyData.canLayAll0 ds = true ∧ Q (.bl (!ds.any fun z => PyData.eqv z d)) H) := by
  intro pins s σ H x y v u Q I rx ry h
  obtain ⟨d, ds, hd, he, sd, se, q⟩ := h
  obtain ⟨as, r1⟩ := Dp.reads I d x v hd rx
  obtain ⟨bs, r2⟩ := Dp.reads I (.tuple ds) y u he ry
  exact SeqAt.notIn_tuple_reads r2 r1 se (SeqAt.canLay_of_shaped sd) (PyProof.Rows.room_in_shaped sd hu) ⟨.bl _, H, I, rfl, q⟩
theorem op_inLst {X : Cx} (hu : X.A.units + 65 < cLine) : OpR X (compareOp .In) (fun x y H Q => ∃ d ds, Dp X.K H x d ∧ Dp X.K H y (.list ds) ∧ SeqAt.shaped d = true ∧ PyData.canLayAll0 ds = true ∧ Q (.bl (ds.any fun z => PyData.eqv z d)) H) := by
  intro pins s σ H x y v u Q I rx ry h
  obtain ⟨d, ds, hd, he, sd, se, q⟩ := h
  obtain ⟨as, r1⟩ := Dp.reads I d x v hd rx
  obtain ⟨bs, r2⟩ := Dp.reads I (.list ds) y u he ry
  exact SeqAt.in_list_reads r2 r1 se (SeqAt.canLay_of_shaped sd) (PyProof.Rows.room_in_shaped sd hu) ⟨.bl _, H, I, rfl, q⟩
theorem op_notInLst {X : Cx} (hu : X.A.units + 65 < cLine) : OpR X (compareOp .NotIn) (fun x y H Q => ∃ d ds, Dp X.K H x d ∧ Dp X.K H y (.list ds) ∧ SeqAt.shaped d = true ∧ PyData.canLayAll0 ds = true ∧ Q (.bl (!ds.any fun z => PyData.eqv z d)) H) := by
  intro pins s σ H x y v u Q I rx ry h
  obtain ⟨d, ds, hd, he, sd, se, q⟩ := h
  obtain ⟨as, r1⟩ := Dp.reads I d x v hd rx
  obtain ⟨bs, r2⟩ := Dp.reads I (.list ds) y u he ry
  exact SeqAt.notIn_list_reads r2 r1 se (SeqAt.canLay_of_shaped sd) (PyProof.Rows.room_in_shaped sd hu) ⟨.bl _, H, I, rfl, q⟩
theorem op_inDct {X : Cx} (hu : X.A.units + 1 < cLine) : OpR X (compareOp .In) (fun x y H Q => ∃ a ov, y = .ref a ∧ DGet H a x ov ∧ Q (.bl ov.isSome) H) := by
  intro pins s σ H x y v u Q I rx ry h
  obtain ⟨a, ov, rfl, g, q⟩ := h
  obtain rfl : u = Value.ref a := ry
  exact d_in hu I g rx fun s3 I3 => ⟨.bl ov.isSome, H, I3, rfl, q⟩
theorem op_notInDct {X : Cx} (hu : X.A.units + 1 < cLine) : OpR X (compareOp .NotIn) (fun x y H Q => ∃ a ov, y = .ref a ∧ DGet H a x ov ∧ Q (.bl (!ov.isSome)) H) := by
  intro pins s σ H x y v u Q I rx ry h
  obtain ⟨a, ov, rfl, g, q⟩ := h
  obtain rfl : u = Value.ref a := ry
  exact d_notIn hu I g rx fun s3 I3 => ⟨.bl (!ov.isSome), H, I3, rfl, q⟩
theorem inP_some {x : D} {ds : List D} {b : Bool} (h : inP x ds = some b) : ∃ d es, D.py x = some d ∧ pys ds = some es ∧ d.depth ≤ 64 ∧ b = es.any fun z => PyData.eqv z d := by
  unfold inP at h
  split at h
  rotate_left
  · cases h
  rename_i d e1
  split at h
  rotate_left
  · cases h
  rename_i e e2
  split at h
  rotate_left
  · cases h
  rename_i hd
  cases h
  exact ⟨d, e, e1, e2, hd, rfl⟩
theorem Str.one {x : Str} {c : Nat} (h : x.cps.toList = [c]) : x = ⟨#[c]⟩ := by
  obtain ⟨⟨l⟩⟩ := x
  simp at h
  subst h
  rfl
theorem in_cases {x y : D} {b : Bool} (h : inD x y = some b) : (∃ s c z, x = .str s ∧ y = .str z ∧ s = ⟨#[c]⟩ ∧ b = decide (c ∈ z.cps.toList)) ∨ (∃ ds, y = .tup ds ∧ inP x ds = some b) ∨ (∃ ds, y = .lst ds ∧ inP x ds = some b) ∨
    ∃ kds k, y = .dct kds ∧ keyD x = some k ∧ b = (valD kds k).isSome := by
  cases y with
  | tup ds => exact .inr (.inl ⟨ds, rfl, by cases x <;> exact h⟩)
  | lst ds => exact .inr (.inr (.inl ⟨ds, rfl, by cases x <;> exact h⟩))
  | dct kds =>
    have h2 : (match keyD x with | some k => some (valD kds k).isSome | none => none) = some b := by cases x <;> exact h
    split at h2
    · rename_i k e; cases h2; exact .inr (.inr (.inr ⟨kds, k, rfl, e, rfl⟩))
    · cases h2
  | str z => cases x with
    | str s =>
      have h2 : (match s.cps.toList with | [c] => some (decide (c ∈ z.cps.toList)) | _ => none) = some b := h
      split at h2
      · rename_i c e; cases h2; exact .inl ⟨s, c, z, rfl, rfl, Str.one e, rfl⟩
      · cases h2
    | _ => cases h
  | _ => cases x <;> cases h
theorem ops_in : OpS (compareOp .In) gIn := by
  intro W N sc X gd F H x y dx dy r hs hx hy e Q k
  unfold gIn at e
  split at e
  rotate_left
  · cases e
  rename_i b e1
  cases e
  have kk := fun v (h : Rep W.K W.cA F v (.bl b)) => k v F H (.refl hs) h
  rcases in_cases e1 with ⟨s, c, z, rfl, rfl, rfl, rfl⟩ | ⟨ds, rfl, e2⟩ | ⟨ds, rfl, e2⟩ | ⟨kds, kq, rfl, e2, rfl⟩
  · obtain rfl := hx.str_
    obtain rfl := hy.str_
    exact ⟨_, op_in_sign, c, z, rfl, rfl, kk _ (.bl _)⟩
  · obtain ⟨d, es, p1, p2, hd, rfl⟩ := inP_some e2
    exact ⟨_, op_inTup gd.hu64, d, es, by rw [gd.K]; exact hx.dp hs p1, by rw [gd.K]; exact hy.dp hs (by unfold D.py; rw [p2]), shaped_py p1 hd, pys_can p2, kk _ (.bl _)⟩
  · obtain ⟨d, es, p1, p2, hd, rfl⟩ := inP_some e2
    exact ⟨_, op_inLst gd.hu64, d, es, by rw [gd.K]; exact hx.dp hs p1, by rw [gd.K]; exact hy.dp hs (by unfold D.py; rw [p2]), shaped_py p1 hd, pys_can p2, kk _ (.bl _)⟩
  · obtain ⟨p, kvs, rfl, hq, en, rs⟩ := hy.dct0 hs
    have hkv := keyD_rep hx e2
    subst hkv
    have vv := val_rep (k := kq) en rs
    have e3 : (valV kvs kq).isSome = (valD kds kq).isSome := by
      cases e4 : valD kds kq with
      | none => rw [vv.2 e4]; all_goals rfl
      | some d => obtain ⟨w, hw, _⟩ := vv.1 d e4; rw [hw]; rfl
    exact ⟨_, op_inDct gd.hu, p, valV kvs kq, rfl, .inl ⟨kvs, kq, hq, rfl, rfl⟩, by rw [e3]; exact kk _ (.bl _)⟩
theorem ops_notin : OpS (compareOp .NotIn) gNotIn := by
  intro W N sc X gd F H x y dx dy r hs hx hy e Q k
  unfold gNotIn at e
  split at e
  rotate_left
  · cases e
  rename_i b e1
  cases e
  have kk := fun v (h : Rep W.K W.cA F v (.bl (!b))) => k v F H (.refl hs) h
  rcases in_cases e1 with ⟨s, c, z, rfl, rfl, rfl, rfl⟩ | ⟨ds, rfl, e2⟩ | ⟨ds, rfl, e2⟩ | ⟨kds, kq, rfl, e2, rfl⟩
  · obtain rfl := hx.str_
    obtain rfl := hy.str_
    exact ⟨_, op_notIn_sign, c, z, rfl, rfl, kk _ (.bl _)⟩
  · obtain ⟨d, es, p1, p2, hd, rfl⟩ := inP_some e2
    exact ⟨_, op_notInTup gd.hu64, d, es, by rw [gd.K]; exact hx.dp hs p1, by rw [gd.K]; exact hy.dp hs (by unfold D.py; rw [p2]), shaped_py p1 hd, pys_can p2, kk _ (.bl _)⟩
  · obtain ⟨d, es, p1, p2, hd, rfl⟩ := inP_some e2
    exact ⟨_, op_notInLst gd.hu64, d, es, by rw [gd.K]; exact hx.dp hs p1, by rw [gd.K]; exact hy.dp hs (by unfold D.py; rw [p2]), shaped_py p1 hd, pys_can p2, kk _ (.bl _)⟩
  · obtain ⟨p, kvs, rfl, hq, en, rs⟩ := hy.dct0 hs
    have hkv := keyD_rep hx e2
    subst hkv
    have vv := val_rep (k := kq) en rs
    have e3 : (valV kvs kq).isSome = (valD kds kq).isSome := by
      cases e4 : valD kds kq with
      | none => rw [vv.2 e4]; all_goals rfl
      | some d => obtain ⟨w, hw, _⟩ := vv.1 d e4; rw [hw]; rfl
    exact ⟨_, op_notInDct gd.hu, p, valV kvs kq, rfl, .inl ⟨kvs, kq, hq, rfl, rfl⟩, by rw [e3]; exact kk _ (.bl _)⟩
end G
/-! Truths of all things; == of own classes; chains; isinstance; raise. -/
namespace G
open PySem L2
def truD : D → Option Bool
  | .non => some false
  | .bl b => some b
  | .int i => some (i != 0)
  | .str y => if y.length ≤ sizeLine then some ((y.length : Int) != 0) else none
  | .tup ds => some (!ds.isEmpty)
  | .lst ds => some (!ds.isEmpty)
  | .scr ns => some (!ns.isEmpty)
  | _ => none
/-- mt: what __bool__ of each class means; pt: the classes that have neither __bool__ nor __len__ -/
def truS (mt : Str → Option FSem) (pt : Str → Bool) (s : S) (M1 : Ms) : Option (Bool × Ms) := match view M1 s with
  | some (.obj c _) => match mt c with
    | some f => match f [s] M1 with
      | some (.d (.bl b), M2) => some (b, M2)
      | _ => none
    | none => if pt c then some (true, M1) else none
  | some d => match truD d with
    | some b => some (b, M1)
    | none => none
  | none => none
def eTru (mt : Str → Option FSem) (pt : Str → Bool) (fa : EF) : TF := fun env M => match fa env M with
  | some (s, M1) => truS mt pt s M1
  | none => none
def PlainTru (W : Wd) (pt : Str → Bool) : Prop := ∀ c C, pt c = true → W.cA c = some C → PySem.W.findIn W.K (.ref C) "__bool__" = some none ∧ PySem.W.findIn W.K (.ref C) "__len__" = some none
def tStar (X : Cx) : V → Hp → (Bool → Hp → Prop) → Prop := fun x H Q => ∃ r, TruR X r ∧ r x H Q
theorem TruR.star (X : Cx) : TruR X (tStar X) := fun pins s σ H x v Q I rx ⟨r, h, q⟩ => h pins s σ H x v Q I rx q
section
variable {W : Wd} {N : List Str} {sc : Scp} {a b c : Expr} {fa fb fc : EF} {es : List Expr} {ga : AF} {pos : Pos}
theorem tru_own {X : Cx} (gd : Gd W N sc X) {f : FSem} {fa' : Addr} {fd : FuncData} {ps : List Str} {C : Addr} (hm : Meth W.K C "__bool__" fa') (hb : Binds W.K fd ps []) (ok : FnOk W.P W.w W.K W.mg W.base CX0 W.k fa' fd ps (spG W f)) :
    TruR X (fun x H Q => ∃ p dx fs, x = .ref p ∧ H p = some (.ins C dx fs) ∧ spG W f [.ref p] H (fun v H' => ∃ b, v = .bl b ∧ Q b H') E0) := by
  intro pins s σ H x v Q I rx h
  obtain ⟨p, dx, fs, rfl, hp, q⟩ := h
  obtain rfl : v = Value.ref p := rx
  obtain ⟨m, hF⟩ := I.fr
  obtain ⟨mA, O, r, wi, _, ho⟩ := ins_get I.hok hp
  obtain ⟨od, J, _⟩ := O.look
  refine PySem.W.truthy_K hF I.ok.mod.kin J (by rw [gd.K]; exact hm.at_) (by rw [gd.K]; exact hm.fn) ?_
  refine wpAny_mono (run_fn (us := [.ref p]) (vs := [.ref p]) (gd.fnok ok) gd.hr (by rw [gd.K]; exact hb) .nil pass0 I (.cons rfl .nil) q) (fun w s' z => ?_) fun _ _ x => x
  obtain ⟨z', H', I', rz, b, rfl, qz⟩ := z
  cases rz
  exact ⟨H', I', qz⟩
theorem tru_plain {X : Cx} {C : Addr} (h1 : PySem.W.findIn X.K (.ref C) "__bool__" = some none) (h2 : PySem.W.findIn X.K (.ref C) "__len__" = some none) :
    TruR X (fun x H Q => ∃ p dx fs, x = .ref p ∧ H p = some (.ins C dx fs) ∧ Q true H) := by
  intro pins s σ H x v Q I rx h
  obtain ⟨p, dx, fs, rfl, hp, q⟩ := h
  obtain rfl : v = Value.ref p := rx
  obtain ⟨m, hF⟩ := I.fr
  obtain ⟨mA, O, r, wi, _, ho⟩ := ins_get I.hok hp
  obtain ⟨od, J, _⟩ := O.look
  exact PySem.W.truthy_K0 hF I.ok.mod.kin J h1 h2 ⟨H, I, q⟩
theorem truV_rep {K : PySem.W.Frag} {cA : Str → Option Addr} {F H : Hp} {v : V} {d : D} {b : Bool} (hs : SubH F H) (h : VRep K cA F H v d) (e : truD d = some b) : TruV K v H b := by
  cases d with
  | non => cases e; cases h with | rep r => cases r; rfl
  | bl i => cases e; cases h with | rep r => cases r; rfl
  | int i => cases e; cases h with | rep r => cases r; rfl
  | str i =>
    have e : (if i.length ≤ sizeLine then some ((i.length : Int) != 0) else none) = some b := e
    split at e
    · rename_i hz
      cases e; cases h with | rep r => cases r; exact ⟨hz, rfl⟩
    · cases e
  | tup ds =>
    cases e
    obtain ⟨p, vs, rfl, q, r⟩ := h.tup_ hs
    refine .inr (.inl ⟨vs, q, ?_⟩)
    have := r.length
    cases ds <;> cases vs <;> first | rfl | simp at this
  | lst ds =>
    cases e
    obtain ⟨p, vs, rfl, q, r⟩ := h.lst_ hs
    refine .inl ⟨vs, .of q, ?_⟩
    have := r.length
    cases ds <;> cases vs <;> first | rfl | simp at this
  | scr ns =>
    cases e
    obtain ⟨p, rfl, q⟩ := h.scr_ hs
    refine .inl ⟨_, q, ?_⟩
    cases ns <;> rfl
  | _ => cases e
theorem tru_ok {X : Cx} (gd : Gd W N sc X) {mt : Str → Option FSem} {pt : Str → Bool} (hmt : ∀ c f, mt c = some f → MethHas W c "__bool__" f) (hpt : PlainTru W pt) {F H : Hp} {κ : List Addr} {M M' : Ms} {s : S} {v : V} {b : Bool} {Q : Bool → Hp → Prop}
    (t : Stt W.K W.cA F H κ M) (r : SRep W.K W.cA F κ v s) (e : truS mt pt s M = some (b, M')) (k : ∀ F' κ' H', Ext F κ F' κ' → Stt W.K W.cA F' H' κ' M' → Q b H') : tStar X v H Q := by
  unfold truS at e
  split at e
  · rename_i c gs e1
    obtain ⟨p, C, dx, fs, rfl, hc, hp, en, rs, na⟩ := (t.view r e1).obj_ t.sub
    split at e
    · rename_i f e2
      split at e
      rotate_left
      · cases e
      rename_i b' M2 e3
      simp only [Option.some.injEq, Prod.mk.injEq] at e
      obtain ⟨rfl, rfl⟩ := e
      obtain ⟨fa', fd, ps, hm, hb, ok⟩ := hmt c f e2 C hc
      refine ⟨_, tru_own gd hm hb ok, p, dx, fs, rfl, hp, F, κ, M, [s], _, _, .cons r .nil, e3, t, fun F' κ' H' v x1 t1 r1 => ?_⟩
      have r1 : Rep W.K W.cA F' v (.bl b') := r1
      cases r1
      exact ⟨b', rfl, k F' κ' H' x1 t1⟩
    · rename_i e2
      split at e
      · rename_i e3
        simp only [Option.some.injEq, Prod.mk.injEq] at e
        obtain ⟨rfl, rfl⟩ := e
        obtain ⟨h1, h2⟩ := hpt c C e3 hc
        exact ⟨_, tru_plain (by rw [gd.K]; exact h1) (by rw [gd.K]; exact h2), p, dx, fs, rfl, hp, k F κ H (.refl _ _) t⟩
      · cases e
  · rename_i d _ e1
    split at e
    · rename_i b' e2
      simp only [Option.some.injEq, Prod.mk.injEq] at e
      obtain ⟨rfl, rfl⟩ := e
      exact ⟨_, L2.tru_ok, b', by rw [gd.K]; exact truV_rep t.sub (t.view r e1) e2, k F κ H (.refl _ _) t⟩
    · cases e
  · cases e
/-- no test of its own form -/
def plainTest : Expr → Bool
  | .BoolOp _ _ _ => false
  | .UnaryOp _ _ _ => false
  | .Compare _ _ _ _ => false
  | .IfExp _ _ _ _ => false
  | .Constant _ _ _ => false
  | .NamedExpr _ _ _ => false
  | .Name _ _ => true
  | .Call _ _ _ _ => true
  | .Attribute _ _ _ => true
  | .Subscript _ _ _ => true
  | .BinOp _ _ _ _ => true
  | .List _ _ => true
  | _ => false
theorem plain_true {e : Expr} (h : plainTest e = true) (env : Env) (whole : Sem Value) : isTrue e env whole = (do let v ← whole; standAt e.pos; holding [v] (truthy v)) := by
  cases e <;> first | rfl | cases h
theorem dt_tru {mt : Str → Option FSem} {pt : Str → Bool} (hmt : ∀ c f, mt c = some f → MethHas W c "__bool__" f) (hpt : PlainTru W pt) (hp : plainTest a = true) (ha : DE W N sc a fa) : DT W N sc a (eTru mt pt fa) := by
  intro X gd
  refine PT.imp (pt_truthR (ha X gd) (TruR.star X) (plain_true hp X.env)) fun σ H Q h => ?_
  obtain ⟨env, M, b, M', F, κ, e, t, er, k⟩ := h
  unfold eTru at e
  split at e
  rotate_left
  · cases e
  rename_i s M1 e1
  exact ⟨env, M, s, M1, F, κ, e1, t, er, fun F1 κ1 H1 v x1 t1 r => tru_ok gd hmt hpt t1 r e fun F2 κ2 H2 x2 t2 => k F2 κ2 H2 (x1.trans x2) t2⟩
/-- not e, as a value -/
def eNotT (mt : Str → Option FSem) (pt : Str → Bool) (fa : EF) : EF := eOf (tNot_ (eTru mt pt fa))
theorem de_notT {mt : Str → Option FSem} {pt : Str → Bool} (hmt : ∀ c f, mt c = some f → MethHas W c "__bool__" f) (hpt : PlainTru W pt) (ha : DE W N sc a fa) : DE W N sc (.UnaryOp .Not a pos) (eNotT mt pt fa) := by
  intro X gd
  refine ⟨fun pins s σ H Q I h => ?_⟩
  obtain ⟨env, M, s', M', F, κ, e, t, er, k⟩ := h
  unfold eNotT eOf tNot_ at e
  cases e1 : eTru mt pt fa env M with
  | none => simp [e1] at e
  | some p =>
    obtain ⟨b, M1⟩ := p
    simp only [e1, Option.some.injEq, Prod.mk.injEq] at e
    obtain ⟨rfl, rfl⟩ := e
    unfold eTru at e1
    split at e1
    rotate_left
    · cases e1
    rename_i s1 M2 e2
    refine PyProof.Rows.UnaryOp_ (thn ((ha X gd).run pins s σ H (fun v H1 => tStar X v H1 fun c H2 => Q (.bl (!c)) H2) I ⟨env, M, s1, M2, F, κ, e2, t, er, fun F1 κ1 H1 v x1 t1 r => tru_ok gd hmt hpt t1 r e1 fun F2 κ2 H2 x2 t2 => ?_⟩) fun u s2 ⟨x, H1, I1, r1, q1⟩ => ?_)
    · exact k F2 κ2 H2 _ (x1.trans x2) t2 (show Rep W.K W.cA F2 (.bl (!b)) (.bl (!b)) from .bl _)
    · exact PyProof.Rows.not_of (thn (TruR.star X pins s2 σ H1 x u _ I1 r1 q1) fun c s3 ⟨H2, I2, q2⟩ => ⟨.bl (!c), H2, I2, rfl, q2⟩)
/-! ### == of own classes -/
def NfOk (W : Wd) (nf : Str → Str → Bool) : Prop := ∀ c c' C C', nf c c' = true → W.cA c = some C → W.cA c' = some C' → PySem.W.notFirst W.K C (.ref C') = true
theorem eq_own {X : Cx} (gd : Gd W N sc X) {f : FSem} {fa' : Addr} {fd : FuncData} {ps : List Str} {C C' : Addr} (hm : Meth W.K C "__eq__" fa') (hb : Binds W.K fd ps []) (ok : FnOk W.P W.w W.K W.mg W.base CX0 W.k fa' fd ps (spG W f)) (hn : PySem.W.notFirst W.K C (.ref C') = true) :
    OpR X (compareOp .Eq) (fun x y H Q => ∃ p dx fs q dy gs, x = .ref p ∧ H p = some (.ins C dx fs) ∧ y = .ref q ∧ H q = some (.ins C' dy gs) ∧ spG W f [.ref p, .ref q] H (fun v H' => ∃ b, v = .bl b ∧ Q (.bl b) H') E0) := by
  intro pins s σ H x y v u Q I rx ry h
  obtain ⟨p, dx, fs, q, dy, gs, rfl, hp, rfl, hq, z⟩ := h
  obtain rfl : v = Value.ref p := rx
  obtain rfl : u = Value.ref q := ry
  obtain ⟨m, hF⟩ := I.fr
  obtain ⟨mA, O, r, wi, _, ho⟩ := ins_get I.hok hp
  obtain ⟨od, J, _⟩ := O.look
  obtain ⟨mA', O', r', wi', _, ho'⟩ := ins_get I.hok hq
  obtain ⟨od', J', _⟩ := O'.look
  show wpAny _ _ (richCompare .Eq _ _) _ _ _
  refine PySem.W.cmp_K (op := .Eq) (tb := .ref C') gd.hr.units0 hF I.ok.mod.kin J J'.type (by rw [gd.K]; exact hn) (by rw [gd.K]; exact hm.at_) (by rw [gd.K]; exact hm.fn) ?_
  refine wpAny_mono (run_fn (us := [.ref p, .ref q]) (vs := [.ref p, .ref q]) (gd.fnok ok) gd.hr (by rw [gd.K]; exact hb) .nil pass0 I (.cons rfl (.cons rfl .nil)) z) (fun w s' z => ?_) fun _ _ x => x
  obtain ⟨z', H', I', rz, b, rfl, qz⟩ := z
  cases rz
  exact ⟨.bl b, H', I', rfl, qz⟩
/-- x == y; both instances: by __eq__ of the first one's class -/
def eqSt (mt : Str → Option FSem) (nf : Str → Str → Bool) (a b : S) (M : Ms) : Option (S × Ms) := match view M a with
  | some x => match view M b with
    | some y => match x, y with
      | .obj c _, .obj c' _ => if nf c c' then match mt c with
          | some f => match f [a, b] M with
            | some (.d (.bl r), M2) => some (.d (.bl r), M2)
            | _ => none
          | none => none
        else none
      | x, y => match gEq x y with
        | some r => some (.d r, M)
        | none => none
    | none => none
  | none => none
def eEq (mt : Str → Option FSem) (nf : Str → Str → Bool) (fa fb : EF) : EF := fun env M => match fa env M with
  | some (a, M1) => match fb env M1 with
    | some (b, M2) => eqSt mt nf a b M2
    | none => none
  | none => none
theorem eq_ok {X : Cx} (gd : Gd W N sc X) {mt : Str → Option FSem} {nf : Str → Str → Bool} (hmt : ∀ c f, mt c = some f → MethHas W c "__eq__" f) (hnf : NfOk W nf) {F H : Hp} {κ : List Addr} {M M' : Ms} {a b s : S} {va vb : V} {Q : VK}
    (t : Stt W.K W.cA F H κ M) (ra : SRep W.K W.cA F κ va a) (rb : SRep W.K W.cA F κ vb b) (e : eqSt mt nf a b M = some (s, M')) (k : ∀ F' κ' H' v, Ext F κ F' κ' → Stt W.K W.cA F' H' κ' M' → SRep W.K W.cA F' κ' v s → Q v H') : rStar X (compareOp .Eq) va vb H Q := by
  unfold eqSt at e
  split at e
  rotate_left
  · cases e
  rename_i x e1
  split at e
  rotate_left
  · cases e
  rename_i y e2
  split at e
  · rename_i c gs c' gs'
    split at e
    rotate_left
    · cases e
    rename_i e3
    split at e
    rotate_left
    · cases e
    rename_i f e4
    split at e
    rotate_left
    · cases e
    rename_i r M2 e5
    simp only [Option.some.injEq, Prod.mk.injEq] at e
    obtain ⟨rfl, rfl⟩ := e
    obtain ⟨p, C, dx, fs, rfl, hc, hp, en, rs, na⟩ := (t.view ra e1).obj_ t.sub
    obtain ⟨q, C', dx', fs', rfl, hc', hp', en', rs', na'⟩ := (t.view rb e2).obj_ t.sub
    obtain ⟨fa', fd, ps, hm, hb, ok⟩ := hmt c f e4 C hc
    refine ⟨_, eq_own gd hm hb ok (hnf c c' C C' e3 hc hc'), p, dx, fs, q, dx', fs', rfl, hp, rfl, hp', F, κ, M, [a, b], _, _, .cons ra (.cons rb .nil), e5, t, fun F' κ' H' v x1 t1 r1 => ?_⟩
    have r1 : Rep W.K W.cA F' v (.bl r) := r1
    cases r1
    exact ⟨r, rfl, k F' κ' H' _ x1 t1 (show Rep W.K W.cA F' (.bl r) (.bl r) from .bl _)⟩
  · split at e
    rotate_left
    · cases e
    rename_i r e3
    simp only [Option.some.injEq, Prod.mk.injEq] at e
    obtain ⟨rfl, rfl⟩ := e
    exact ops_eq W N sc X gd F H va vb x y r t.sub (t.view ra e1) (t.view rb e2) e3 Q fun v F3 H3 n rv => k F3 κ H3 v (.sub' n.fr) (t.new n) rv
theorem tEv_eq {X : Cx} (gd : Gd W N sc X) {mt : Str → Option FSem} {nf : Str → Str → Bool} (hmt : ∀ c f, mt c = some f → MethHas W c "__eq__" f) (hnf : NfOk W nf) : ∀ σ H Q, tEv W (eEq mt nf fa fb) σ H Q → tOp (rStar X (compareOp .Eq)) (tEv W fa) (tEv W fb) σ H Q := by
  intro σ H Q h
  obtain ⟨env, M, s, M', F, κ, e, t, er, k⟩ := h
  unfold eEq at e
  split at e
  rotate_left
  · cases e
  rename_i sa M1 e1
  split at e
  rotate_left
  · cases e
  rename_i sb M2 e2
  refine ⟨env, M, sa, M1, F, κ, e1, t, er, fun F1 κ1 H1 va x1 t1 ra => ?_⟩
  refine ⟨env, M1, sb, M2, F1, κ1, e2, t1, er.ext x1, fun F2 κ2 H2 vb x2 t2 rb => ?_⟩
  exact eq_ok gd hmt hnf t2 (ra.ext x2) rb e fun F3 κ3 H3 v x3 t3 r => k F3 κ3 H3 v ((x1.trans x2).trans x3) t3 r
theorem de_eq {mt : Str → Option FSem} {nf : Str → Str → Bool} (hmt : ∀ c f, mt c = some f → MethHas W c "__eq__" f) (hnf : NfOk W nf) (hm : behindInMarks .Eq b = false) (ha : DE W N sc a fa) (hb : DE W N sc b fb) : DE W N sc (.Compare a [.Eq] [b] pos) (eEq mt nf fa fb) :=
  fun X gd => PE.imp (pe_cmpR (OpR.star X _) (ha X gd) (hb X gd) hm) (tEv_eq gd hmt hnf)
theorem dt_eq {mt : Str → Option FSem} {nf : Str → Str → Bool} (hmt : ∀ c f, mt c = some f → MethHas W c "__eq__" f) (hnf : NfOk W nf) (hm : behindInMarks .Eq b = false) (ha : DE W N sc a fa) (hb : DE W N sc b fb) : DT W N sc (.Compare a [.Eq] [b] pos) (eTest (eEq mt nf fa fb)) := by
  intro X gd
  exact PT.imp (pt_cmpR (OpR.star X _) (ha X gd) (hb X gd) hm) fun σ H Q h => tEv_eq gd hmt hnf σ H _ (tTv_test σ H Q h)
end
end G
/-! isinstance; chains; what fails; attributes changed in place. -/
namespace G
open PySem L2
/-- a class -/
inductive Ty where
  | bt (n : String) | cl (c : Str)
  deriving DecidableEq, Inhabited
def TyV (W : Wd) : Ty → V → Value → Prop
  | .bt n, v, u => v = .ty n ∧ u = .type n
  | .cl c, v, u => ∃ C, W.cA c = some C ∧ v = .ref C ∧ u = .ref C
theorem TyV.clsV {W : Wd} {t : Ty} {v : V} {u : Value} (h : TyV W t v u) : ClsV v u := by
  cases t with
  | bt n => obtain ⟨rfl, rfl⟩ := h; exact .ty n
  | cl c => obtain ⟨C, _, rfl, rfl⟩ := h; exact .own C
def tyD : D → Ty
  | .non => .bt "NoneType"
  | .bl _ => .bt "bool"
  | .int _ => .bt "int"
  | .str _ => .bt "str"
  | .tup _ => .bt "tuple"
  | .lst _ => .bt "list"
  | .scr _ => .bt "list"
  | .dct _ => .bt "dict"
  | .obj c _ => .cl c
/-- what isinstance says of classes -/
structure KitOk (W : Wd) (kit : Ty → Ty → Option Bool) (ic : Str → Bool) : Prop where
  one : ∀ t t' b v u v' u', kit t t' = some b → TyV W t v u → TyV W t' v' u' → PySem.W.kitOne W.K u u' = some b
  ha : ∀ c C, ic c = true → W.cA c = some C → PySem.W.findIn W.K (.ref C) "__class__" = some (some (.builtin "object.__class__"))
  hn : ∀ c C, ic c = true → W.cA c = some C → PySem.W.specialIn W.K (.builtin "object.__class__") "__get__" = some (some (.builtin "getset_descriptor.__get__"))
  ht : ∀ c C, ic c = true → W.cA c = some C → PySem.W.takesIn W.K (.builtin "object.__class__") = some true
  hm : ∀ c C, ic c = true → W.cA c = some C → PySem.W.mroIn W.K C (.type "object") = some true
def kitAll (kit : Ty → Ty → Option Bool) (t : Ty) : List Ty → Option Bool
  | [] => some false
  | c :: r => match kit t c with
    | some true => some true
    | some false => kitAll kit t r
    | none => none
def icD (ic : Str → Bool) : D → Bool
  | .obj c _ => ic c
  | _ => true
def isiD (kit : Ty → Ty → Option Bool) (ic : Str → Bool) (d : D) (ts : List Ty) : Option Bool := if icD ic d then kitAll kit (tyD d) ts else none
def eIsi (kit : Ty → Ty → Option Bool) (ic : Str → Bool) (ts : List Ty) (fa : EF) : EF := fun env M => match fa env M with
  | some (s, M1) => match view M1 s with
    | some d => match isiD kit ic d ts with
      | some b => some (.d (.bl b), M1)
      | none => none
    | none => none
  | none => none
theorem tyX_rep {W : Wd} {kit : Ty → Ty → Option Bool} {ic : Str → Bool} (ok : KitOk W kit ic) {F H : Hp} {v : V} {d : D} (hs : SubH F H) (h : VRep W.K W.cA F H v d) (hi : icD ic d = true) : ∃ w t, TyX W.K H v t ∧ TyV W (tyD d) w t := by
  have hL : ∀ {p : Addr} {vs : List V}, SqL W.K H p vs → TyX W.K H (.ref p) (.type "list") := fun q => by
    rcases q with (q | ⟨o, q⟩) | ⟨o, its, n, q, hc, _⟩
    · exact .base (.lst q)
    · exact .base (.frz q)
    · exact .kList q hc
  have hT : ∀ {p : Addr} {vs : List V}, SqT W.K H p vs → TyX W.K H (.ref p) (.type "tuple") := fun q => by
    rcases q with (q | ⟨o, q⟩) | ⟨o, its, n, q, hc, _⟩
    · exact .base (.tup q)
    · exact .fTuple q
    · exact .kTuple q hc
  cases d with
  | non => cases h with | rep r => cases r; exact ⟨_, _, .base .non, rfl, rfl⟩
  | bl i => cases h with | rep r => cases r; exact ⟨_, _, .base (.bl i), rfl, rfl⟩
  | int i => cases h with | rep r => cases r; exact ⟨_, _, .base (.int i), rfl, rfl⟩
  | str i => cases h with | rep r => cases r; exact ⟨_, _, .base (.str i), rfl, rfl⟩
  | tup ds => obtain ⟨p, vs, rfl, q, r⟩ := h.tup_ hs; exact ⟨_, _, hT q, rfl, rfl⟩
  | lst ds => obtain ⟨p, vs, rfl, q, r⟩ := h.lst_ hs; exact ⟨_, _, hL (.of q), rfl, rfl⟩
  | scr ds => obtain ⟨p, rfl, q⟩ := h.scr_ hs; exact ⟨_, _, hL q, rfl, rfl⟩
  | dct kds =>
    obtain ⟨p, kvs, rfl, q, r⟩ := h.dct0 hs
    rcases q with q | ⟨o, q⟩
    · exact ⟨_, _, .base (.dK q), rfl, rfl⟩
    · exact ⟨_, _, .fDict q, rfl, rfl⟩
  | obj c gs =>
    obtain ⟨p, C, dx, fs, rfl, hc, hp, _⟩ := h.obj_ hs
    exact ⟨.ref C, .ref C, .base (.ins hp (W.cls c C hc) (ok.ha c C hi hc) (ok.hn c C hi hc) (ok.ht c C hi hc) (ok.hm c C hi hc)), C, hc, rfl, rfl⟩
theorem kitAll_ok {W : Wd} {kit : Ty → Ty → Option Bool} {ic : Str → Bool} (ok : KitOk W kit ic) {t : Ty} {v : V} {u : Value} (h : TyV W t v u) : ∀ {ts : List Ty} {vs : List V} {us : List Value} {b : Bool}, (∀ (i : Nat) t', ts[i]? = some t' → ∃ v' u', vs[i]? = some v' ∧ us[i]? = some u' ∧ TyV W t' v' u') → us.length = ts.length → kitAll kit t ts = some b → PySem.W.kitAny W.K u us = some b
  | [], vs, [], b, _, _, e => e
  | [], vs, _ :: _, b, _, hl, e => by simp at hl
  | t' :: ts, vs, [], b, _, hl, e => by simp at hl
  | t' :: ts, vs, u' :: us, b, ha, hl, e => by
    obtain ⟨v1, u1, h1, h2, h3⟩ := ha 0 t' rfl
    simp only [List.getElem?_cons_zero, Option.some.injEq] at h2
    subst h2
    unfold kitAll at e
    unfold PySem.W.kitAny
    cases e1 : kit t t' with
    | none => simp [e1] at e
    | some b1 =>
      rw [ok.one t t' b1 v u v1 u' e1 h h3]
      cases b1 with
      | true => simp only [e1] at e; exact e
      | false =>
        simp only [e1] at e
        exact kitAll_ok ok h (ts := ts) (vs := vs.drop 1) (us := us) (fun i t2 hi => by
          obtain ⟨a1, a2, a3, a4, a5⟩ := ha (i + 1) t2 (by simpa using hi)
          exact ⟨a1, a2, by rw [List.getElem?_drop, Nat.add_comm]; exact a3, by simpa using a4, a5⟩) (by simpa using hl) e
/-- the names of classes, as they stand in a text -/
def TyName (W : Wd) (sc : Scp) (e : Expr) (t : Ty) : Prop := ∃ x p, e = .Name x p ∧ sc.names.lookup x = some .globalImplicit ∧ x ≠ "__name__" ∧ (x == ("__debug__" : Str)) = false ∧
  match t with
  | .bt n => W.mg x = none ∧ bootBuiltins x = some (.type n)
  | .cl c => ∃ C, W.cA c = some C ∧ W.mg x = some (.ref C)
section
variable {W : Wd} {N : List Str} {sc : Scp} {a b c : Expr} {fa fb fc : EF} {es : List Expr} {ga : AF} {pos : Pos}
theorem ty_pe {e : Expr} {t : Ty} (h : TyName W sc e t) {X : Cx} (gd : Gd W N sc X) : ∃ v u, TyV W t v u ∧ PE X e (tC v) ∧ notStar e = true := by
  obtain ⟨x, p, rfl, hg, hn, hd, h⟩ := h
  cases t with
  | bt n => exact ⟨.ty n, .type n, ⟨rfl, rfl⟩, pe_bltn (gd.gl hg) (by rw [gd.mg]; exact h.1) h.2 rfl hn hd, rfl⟩
  | cl c =>
    obtain ⟨C, hC, hm⟩ := h
    exact ⟨.ref C, .ref C, ⟨C, hC, rfl, rfl⟩, pe_glob (gd.gl hg) (by rw [gd.mg]; exact hm) rfl hd, rfl⟩
inductive TyNames (W : Wd) (sc : Scp) : List Expr → List Ty → Prop
  | nil : TyNames W sc [] []
  | cons {e : Expr} {t : Ty} {es : List Expr} {ts : List Ty} : TyName W sc e t → TyNames W sc es ts → TyNames W sc (e :: es) (t :: ts)
theorem PA.imp' {X : Cx} {e : List Expr} {t t' : TA} (h : PA X e t) (i : ∀ σ H Q, t' σ H Q → t σ H Q) : PA X e t' := ⟨fun pos pins s σ H Q I hw => h.run pos pins s σ H Q I (i σ H Q hw)⟩
theorem ty_pa {X : Cx} (gd : Gd W N sc X) : ∀ {es : List Expr} {ts : List Ty}, TyNames W sc es ts → ∃ vs us, Paired ClsV vs us ∧ us.length = ts.length ∧ (∀ (i : Nat) t, ts[i]? = some t → ∃ v' u', vs[i]? = some v' ∧ us[i]? = some u' ∧ TyV W t v' u') ∧ vs.length = ts.length ∧ PA X es (fun σ H Q => Q vs H)
  | [], _, .nil => ⟨[], [], .nil, rfl, fun i t h => by simp at h, rfl, pa_nil⟩
  | e :: es, _, .cons h r => by
    obtain ⟨vs, us, h1, h2, h3, h4, h5⟩ := ty_pa gd r
    obtain ⟨v, u, k1, k2, k3⟩ := ty_pe h gd
    refine ⟨v :: vs, u :: us, .cons k1.clsV h1, by simp [h2], fun i t hi => ?_, by simp [h4], PA.imp' (pa_cons k2 h5 (star_cons k3 _ _)) fun σ H Q q => q⟩
    cases i with
    | zero => simp at hi; subst hi; exact ⟨v, u, rfl, rfl, k1⟩
    | succ i => exact h3 i t (by simpa using hi)
theorem eIsi_some {kit : Ty → Ty → Option Bool} {ic : Str → Bool} {ts : List Ty} {env : Ev} {M M' : Ms} {s : S} (h : eIsi kit ic ts fa env M = some (s, M')) : ∃ s1 d b, fa env M = some (s1, M') ∧ view M' s1 = some d ∧ icD ic d = true ∧ kitAll kit (tyD d) ts = some b ∧ s = .d (.bl b) := by
  unfold eIsi at h
  split at h
  rotate_left
  · cases h
  rename_i s1 M1 e1
  split at h
  rotate_left
  · cases h
  rename_i d e2
  split at h
  rotate_left
  · cases h
  rename_i b e3
  simp only [Option.some.injEq, Prod.mk.injEq] at h
  obtain ⟨rfl, rfl⟩ := h
  unfold isiD at e3
  split at e3
  · rename_i hi; exact ⟨s1, d, b, e1, e2, hi, e3, rfl⟩
  · cases e3
theorem de_isi {kit : Ty → Ty → Option Bool} {ic : Str → Bool} (ok : KitOk W kit ic) {t : Ty} {p : Pos} (hf : Free W sc "isinstance") (hst : notStar a = true) (ha : DE W N sc a fa) (hb : TyName W sc b t) :
    DE W N sc (.Call (.Name "isinstance" p) [a, b] [] pos) (eIsi kit ic [t] fa) := by
  intro X gd
  obtain ⟨v, u, k1, k2, k3⟩ := ty_pe hb gd
  refine PE.imp (pe_callB call_isi (gd.gl hf.1) (by rw [gd.mg]; exact hf.2) PyProof.Rows.boot_isinstance (pa_cons (ha X gd) (pa_cons k2 pa_nil (star_cons k3 _ _)) (star_cons hst _ _)) (by decide) (by decide) (star_cons hst _ _) (plain_args (by simp [k3]) _ _)) fun σ H Q h => ?_
  obtain ⟨env, M, s, M', F, κ, e, t0, er, k⟩ := h
  obtain ⟨s1, d, r, e1, e2, hi, e3, rfl⟩ := eIsi_some e
  refine ⟨env, M, s1, M', F, κ, e1, t0, er, fun F1 κ1 H1 w x1 t1 rw' => ?_⟩
  obtain ⟨w2, tt, h1, h2⟩ := tyX_rep ok t1.sub (t1.view rw' e2) hi
  refine ⟨w, v, tt, u, r, rfl, k1.clsV, by rw [gd.K]; exact h1, ?_, k F1 κ1 H1 _ x1 t1 (show Rep W.K W.cA F1 (.bl r) (.bl r) from .bl _)⟩
  rw [gd.K]
  unfold kitAll at e3
  cases e4 : kit (tyD d) t with
  | none => simp [e4] at e3
  | some b1 =>
    rw [ok.one _ _ b1 w2 tt v u e4 h2 k1]
    cases b1 <;> (simp only [e4] at e3; exact e3)
theorem de_isiT {kit : Ty → Ty → Option Bool} {ic : Str → Bool} (ok : KitOk W kit ic) {ts : List Ty} {j : Nat} {p tp : Pos} (hf : Free W sc "isinstance") (hst : notStar a = true) (ha : DE W N sc a fa) (hb : TyNames W sc es ts) (hl : ts.length < 100) :
    DE W N sc (.Call (.Name "isinstance" p) [a, .Tuple es j tp] [] pos) (eIsi kit ic ts fa) := by
  intro X gd
  obtain ⟨vs, us, k1, k2, k3, k4, k5⟩ := ty_pa gd hb
  refine PE.imp (pe_callB call_isiT (gd.gl hf.1) (by rw [gd.mg]; exact hf.2) PyProof.Rows.boot_isinstance (pa_cons (ha X gd) (pa_cons (pe_tup k5) pa_nil (star_cons rfl _ _)) (star_cons hst _ _)) (by decide) (by decide) (star_cons hst _ _) (plain_args (by rfl) _ _)) fun σ H Q h => ?_
  obtain ⟨env, M, s, M', F, κ, e, t0, er, k⟩ := h
  obtain ⟨s1, d, r, e1, e2, hi, e3, rfl⟩ := eIsi_some e
  refine ⟨env, M, s1, M', F, κ, e1, t0, er, fun F1 κ1 H1 w x1 t1 rw' => ?_⟩
  refine ⟨by rw [k4, sizeLine_eq]; omega, fun q hq => ?_⟩
  have n : New F1 H1 F1 (upd H1 q (.tup vs)) := New.oneH t1.sub hq
  have t2 := t1.new n
  obtain ⟨w2, tt, h1, h2⟩ := tyX_rep ok t2.sub (t2.view rw' e2) hi
  exact ⟨w, q, vs, tt, us, r, rfl, upd_same, k1, by rw [gd.K]; exact h1, by rw [gd.K]; exact kitAll_ok ok h2 k3 k2 e3, k F1 κ1 _ _ x1 t2 (show Rep W.K W.cA F1 (.bl r) (.bl r) from .bl _)⟩
/-! ### a <= b <= c -/
def eChain (g g' : D → D → Option D) (fa fb fc : EF) : EF := fun env M => match fa env M with
  | some (a, M1) => match fb env M1 with
    | some (b, M2) => match view M2 a with
      | some x => match view M2 b with
        | some y => match g x y with
          | some (.bl true) => match fc env M2 with
            | some (c, M3) => match view M3 b with
              | some y' => match view M3 c with
                | some z => match g' y' z with
                  | some r => some (.d r, M3)
                  | none => none
                | none => none
              | none => none
            | none => none
          | some (.bl false) => some (.d (.bl false), M2)
          | _ => none
        | none => none
      | none => none
    | none => none
  | none => none
theorem tEv_chain {X : Cx} (gd : Gd W N sc X) {f f' : Value → Value → Sem Value} {g g' : D → D → Option D} (ho : OpS f g) (ho' : OpS f' g') : ∀ σ H Q, tEv W (eChain g g' fa fb fc) σ H Q → tChain (rStar X f) (rStar X f') (tEv W fa) (tEv W fb) (tEv W fc) σ H Q := by
  intro σ H Q h
  obtain ⟨env, M, s, M', F, κ, e, t, er, k⟩ := h
  unfold eChain at e
  split at e
  rotate_left
  · cases e
  rename_i sa M1 e1
  split at e
  rotate_left
  · cases e
  rename_i sb M2 e2
  split at e
  rotate_left
  · cases e
  rename_i x e3
  split at e
  rotate_left
  · cases e
  rename_i y e4
  refine ⟨env, M, sa, M1, F, κ, e1, t, er, fun F1 κ1 H1 va x1 t1 ra => ?_⟩
  refine ⟨env, M1, sb, M2, F1, κ1, e2, t1, er.ext x1, fun F2 κ2 H2 vb x2 t2 rb => ?_⟩
  split at e
  · rename_i e5
    split at e
    rotate_left
    · cases e
    rename_i sc' M3 e6
    split at e
    rotate_left
    · cases e
    rename_i y' e7
    split at e
    rotate_left
    · cases e
    rename_i z e8
    split at e
    rotate_left
    · cases e
    rename_i r e9
    simp only [Option.some.injEq, Prod.mk.injEq] at e
    obtain ⟨rfl, rfl⟩ := e
    refine ho W N sc X gd F2 H2 va vb x y _ t2.sub (t2.view (ra.ext x2) e3) (t2.view rb e4) e5 _ fun v F3 H3 n rv => ?_
    cases rv
    refine ⟨true, rfl, iteT ?_⟩
    have x3 : Ext F2 κ2 F3 κ2 := .sub' n.fr
    refine ⟨env, M2, sc', M3, F3, κ2, e6, t2.new n, (er.ext (x1.trans x2)).ext x3, fun F4 κ4 H4 vc x4 t4 rc => ?_⟩
    refine ho' W N sc X gd F4 H4 vb vc y' z _ t4.sub (t4.view ((rb.ext x3).ext x4) e7) (t4.view rc e8) e9 _ fun v F5 H5 n5 rv => ?_
    exact k F5 κ4 H5 v ((((x1.trans x2).trans x3).trans x4).trans (.sub' n5.fr)) (t4.new n5) rv
  · rename_i e5
    simp only [Option.some.injEq, Prod.mk.injEq] at e
    obtain ⟨rfl, rfl⟩ := e
    refine ho W N sc X gd F2 H2 va vb x y _ t2.sub (t2.view (ra.ext x2) e3) (t2.view rb e4) e5 _ fun v F3 H3 n rv => ?_
    cases rv
    refine ⟨false, rfl, iteF ?_⟩
    exact k F3 κ2 H3 _ ((x1.trans x2).trans (.sub' n.fr)) (t2.new n) (show Rep W.K W.cA F3 (.bl false) (.bl false) from .bl _)
  · cases e
theorem de_chain {op op' : CmpOp} {g g' : D → D → Option D} (ho : OpS (compareOp op) g) (ho' : OpS (compareOp op') g') (hm : lastMarks [op, op'] [b, c] = false) (ha : DE W N sc a fa) (hb : DE W N sc b fb) (hc : DE W N sc c fc) :
    DE W N sc (.Compare a [op, op'] [b, c] pos) (eChain g g' fa fb fc) := fun X gd => PE.imp (pe_chain (OpR.star X _) (OpR.star X _) (ha X gd) (hb X gd) (hc X gd) hm) (tEv_chain gd ho ho')
theorem dt_chain {op op' : CmpOp} {g g' : D → D → Option D} (ho : OpS (compareOp op) g) (ho' : OpS (compareOp op') g') (hm : lastMarks [op, op'] [b, c] = false) (ha : DE W N sc a fa) (hb : DE W N sc b fb) (hc : DE W N sc c fc) :
    DT W N sc (.Compare a [op, op'] [b, c] pos) (eTest (eChain g g' fa fb fc)) := fun X gd => PT.imp (pt_chain (OpR.star X _) (OpR.star X _) (ha X gd) (hb X gd) (hc X gd) hm) fun σ H Q h => tEv_chain gd ho ho' σ H _ (tTv_test σ H Q h)
end
end G
/-! Built-in functions on data. -/
namespace G
open PySem L2
def intsD : List D → Option (List Int)
  | [] => some []
  | .int i :: r => match intsD r with
    | some ns => some (i :: ns)
    | none => none
  | _ => none
def blsD : List D → Option (List Bool)
  | [] => some []
  | .bl i :: r => match blsD r with
    | some ns => some (i :: ns)
    | none => none
  | _ => none
def strsD : List D → Option (List Str)
  | [] => some []
  | .str i :: r => match strsD r with
    | some ns => some (i :: ns)
    | none => none
  | _ => none
theorem intsD_eq : ∀ {ds : List D} {ns : List Int}, intsD ds = some ns → ds = ns.map D.int
  | [], ns, h => by cases h; rfl
  | d :: r, ns, h => by
    cases d with
    | int i =>
      unfold intsD at h
      split at h
      · rename_i ns' e; cases h; rw [intsD_eq e]; rfl
      · cases h
    | _ => cases h
theorem blsD_eq : ∀ {ds : List D} {ns : List Bool}, blsD ds = some ns → ds = ns.map D.bl
  | [], ns, h => by cases h; rfl
  | d :: r, ns, h => by
    cases d with
    | bl i =>
      unfold blsD at h
      split at h
      · rename_i ns' e; cases h; rw [blsD_eq e]; rfl
      · cases h
    | _ => cases h
theorem strsD_eq : ∀ {ds : List D} {ns : List Str}, strsD ds = some ns → ds = ns.map D.str
  | [], ns, h => by cases h; rfl
  | d :: r, ns, h => by
    cases d with
    | str i =>
      unfold strsD at h
      split at h
      · rename_i ns' e; cases h; rw [strsD_eq e]; rfl
      · cases h
    | _ => cases h
@[simp] theorem intsD_map (ns : List Int) : intsD (ns.map D.int) = some ns := by
  induction ns with
  | nil => rfl
  | cons n ns ih => rw [List.map_cons]; unfold intsD; rw [ih]
@[simp] theorem blsD_map (ns : List Bool) : blsD (ns.map D.bl) = some ns := by
  induction ns with
  | nil => rfl
  | cons n ns ih => rw [List.map_cons]; unfold blsD; rw [ih]
@[simp] theorem strsD_map (ns : List Str) : strsD (ns.map D.str) = some ns := by
  induction ns with
  | nil => rfl
  | cons n ns ih => rw [List.map_cons]; unfold strsD; rw [ih]
theorem VReps.one {K : PySem.W.Frag} {cA : Str → Option Addr} {F H : Hp} {xs : List V} {d : D} (h : VReps K cA F H xs [d]) : ∃ x, xs = [x] ∧ VRep K cA F H x d := by
  cases h with
  | cons r t => cases t; exact ⟨_, rfl, r⟩
theorem VReps.two {K : PySem.W.Frag} {cA : Str → Option Addr} {F H : Hp} {xs : List V} {d e : D} (h : VReps K cA F H xs [d, e]) : ∃ x y, xs = [x, y] ∧ VRep K cA F H x d ∧ VRep K cA F H y e := by
  cases h with
  | cons r t =>
    obtain ⟨y, rfl, q⟩ := t.one
    exact ⟨_, _, rfl, r, q⟩
/-- a list's items, a tuple's -/
theorem VRep.seq {K : PySem.W.Frag} {cA : Str → Option Addr} {F H : Hp} {v : V} {d : D} {ds : List D} (hs : SubH F H) (h : VRep K cA F H v d) (e : itemsOf d = some ds) : ∃ p vs, v = .ref p ∧ (SqL K H p vs ∨ SqT K H p vs) ∧ Reps K cA F vs ds :=
  let ⟨p, vs, a, b, c⟩ := h.items hs e; ⟨p, vs, a, b.symm, c⟩
/-- a list's items -/
def lstOf : D → Option (List D)
  | .lst ds => some ds
  | .scr ns => some (ns.map D.int)
  | _ => none
theorem VRep.lstOf {K : PySem.W.Frag} {cA : Str → Option Addr} {F H : Hp} {v : V} {d : D} {ds : List D} (hs : SubH F H) (h : VRep K cA F H v d) (e : G.lstOf d = some ds) : ∃ p vs, v = .ref p ∧ SqL K H p vs ∧ Reps K cA F vs ds := by
  cases d with
  | lst xs => cases e; obtain ⟨p, vs, rfl, q, r⟩ := h.lst_ hs; exact ⟨p, vs, rfl, .of q, r⟩
  | scr xs => cases e; obtain ⟨p, rfl, q⟩ := h.scr_ hs; exact ⟨p, _, rfl, q, .ints⟩
  | _ => cases e
/-! ### len -/
def gLen : List D → Option D
  | [.str x] => if x.length ≤ sizeLine then some (.int x.length) else none
  | [.tup ds] => some (.int ds.length)
  | [.lst ds] => some (.int ds.length)
  | [.scr ds] => some (.int ds.length)
  | [.dct kds] => some (.int kds.length)
  | _ => none
theorem call_lenR {X : Cx} : CallR X (.builtin "len") (fun xs H Q => ∃ a kvs, xs = [V.ref a] ∧ Rd H a (.dK kvs) ∧ Q (.int kvs.length) H) := by
  intro pins s σ H xs us Q I r h
  obtain ⟨a, kvs, rfl, ha, q⟩ := h
  obtain ⟨u, rfl, ru⟩ := vals1 r
  cases ru
  exact d_len I ha fun t s' I' => ⟨.int kvs.length, H, I', ⟨t, rfl⟩, q⟩
theorem cs_len : CallS (.builtin "len") gLen := by
  intro W N sc X gd F H xs dxs r hs hx e Q k
  have kk : ∀ i : Int, r = .int i → Q (.int i) H := fun i e => k _ F H (.refl hs) (by rw [e]; exact .int i)
  unfold gLen at e
  split at e
  · rename_i x
    split at e
    · rename_i hz
      cases e
      obtain ⟨v, rfl, h⟩ := hx.one
      obtain rfl := h.str_
      exact ⟨_, call_len, _, _, rfl, (show LenV _ (.str x) H x.length from ⟨hz, rfl⟩), kk _ rfl⟩
    · cases e
  · rename_i ds
    cases e
    obtain ⟨v, rfl, h⟩ := hx.one
    obtain ⟨p, vs, rfl, q, rs⟩ := h.tup_ hs
    exact ⟨_, call_len, _, _, rfl, (show LenV _ (.ref p) H vs.length from .inr ⟨vs, by rw [gd.K]; exact q, rfl⟩), by rw [rs.length]; exact kk _ rfl⟩
  · rename_i ds
    cases e
    obtain ⟨v, rfl, h⟩ := hx.one
    obtain ⟨p, vs, rfl, q, rs⟩ := h.lst_ hs
    exact ⟨_, call_len, _, _, rfl, (show LenV _ (.ref p) H vs.length from .inl ⟨vs, .of q, rfl⟩), by rw [rs.length]; exact kk _ rfl⟩
  · rename_i ds
    cases e
    obtain ⟨v, rfl, h⟩ := hx.one
    obtain ⟨p, rfl, q⟩ := h.scr_ hs
    exact ⟨_, call_len, _, _, rfl, (show LenV _ (.ref p) H _ from .inl ⟨_, by rw [gd.K]; exact q, rfl⟩), by rw [List.length_map]; exact kk _ rfl⟩
  · rename_i ds
    cases e
    obtain ⟨v, rfl, h⟩ := hx.one
    obtain ⟨p, kvs, rfl, q, en, rs⟩ := h.dct0 hs
    have : kvs.length = ds.length := by simpa using congrArg List.length en
    exact ⟨_, call_lenR, _, _, rfl, q, by rw [this]; exact kk _ rfl⟩
  · cases e
/-! ### sums, truths, greatest, least -/
def gOfInts (g : List Int → Option D) : List D → Option D
  | [x] => match lstOf x with
    | some ds => match intsD ds with
      | some ns => g ns
      | none => none
    | none => none
  | _ => none
theorem gOfInts_some {g : List Int → Option D} {xs : List D} {r : D} (h : gOfInts g xs = some r) : ∃ x ns, xs = [x] ∧ lstOf x = some (ns.map D.int) ∧ g ns = some r := by
  unfold gOfInts at h
  split at h
  rotate_left
  · cases h
  rename_i x
  split at h
  rotate_left
  · cases h
  rename_i ds e1
  split at h
  rotate_left
  · cases h
  rename_i ns e2
  exact ⟨x, ns, rfl, by rw [e1, intsD_eq e2], h⟩
def gSum : List D → Option D := gOfInts fun ns => some (.int ns.sum)
theorem cs_sum : CallS (.builtin "sum") gSum := by
  intro W N sc X gd F H xs dxs r hs hx e Q k
  obtain ⟨x, ns, rfl, e1, e2⟩ := gOfInts_some e
  cases e2
  obtain ⟨v, rfl, h⟩ := hx.one
  obtain ⟨p, vs, rfl, q, rs⟩ := h.lstOf hs e1
  rw [rs.intsV] at q
  exact ⟨_, cr_sum gd.calm, p, ns, rfl, by rw [gd.K]; exact q, k _ F H (.refl hs) (.int _)⟩
def maxI : List Int → Option Int
  | [] => none
  | x :: r => some (r.foldl max x)
def minI : List Int → Option Int
  | [] => none
  | x :: r => some (r.foldl min x)
theorem foldl_max_mem : ∀ (r : List Int) (x : Int), r.foldl max x = x ∨ r.foldl max x ∈ r
  | [], x => .inl rfl
  | y :: r, x => by
    rw [List.foldl_cons]
    rcases foldl_max_mem r (max x y) with h | h
    · rw [h]
      by_cases hxy : x ≤ y
      · rw [Int.max_eq_right hxy]; exact .inr (by simp)
      · rw [Int.max_eq_left (by omega)]; exact .inl rfl
    · exact .inr (List.mem_cons_of_mem _ h)
theorem foldl_max_le : ∀ (r : List Int) (x : Int), x ≤ r.foldl max x ∧ ∀ y ∈ r, y ≤ r.foldl max x
  | [], x => ⟨Int.le_refl _, by simp⟩
  | y :: r, x => by
    rw [List.foldl_cons]
    obtain ⟨h1, h2⟩ := foldl_max_le r (max x y)
    refine ⟨by omega, fun z hz => ?_⟩
    rcases List.mem_cons.mp hz with rfl | hz
    · omega
    · exact h2 z hz
theorem foldl_min_mem : ∀ (r : List Int) (x : Int), r.foldl min x = x ∨ r.foldl min x ∈ r
  | [], x => .inl rfl
  | y :: r, x => by
    rw [List.foldl_cons]
    rcases foldl_min_mem r (min x y) with h | h
    · rw [h]
      by_cases hxy : x ≤ y
      · rw [Int.min_eq_left hxy]; exact .inl rfl
      · rw [Int.min_eq_right (by omega)]; exact .inr (by simp)
    · exact .inr (List.mem_cons_of_mem _ h)
theorem foldl_min_le : ∀ (r : List Int) (x : Int), r.foldl min x ≤ x ∧ ∀ y ∈ r, r.foldl min x ≤ y
  | [], x => ⟨Int.le_refl _, by simp⟩
  | y :: r, x => by
    rw [List.foldl_cons]
    obtain ⟨h1, h2⟩ := foldl_min_le r (min x y)
    refine ⟨by omega, fun z hz => ?_⟩
    rcases List.mem_cons.mp hz with rfl | hz
    · omega
    · exact h2 z hz
theorem maxI_uniq {ns : List Int} {m m' : Int} (h : maxI ns = some m) (h1 : m' ∈ ns) (h2 : ∀ y ∈ ns, y ≤ m') : m' = m := by
  cases ns with
  | nil => cases h
  | cons x r =>
    have e : r.foldl max x = m := Option.some.inj h
    obtain ⟨k1, k2⟩ := foldl_max_le r x
    have k3 : m' ≤ m := by
      rw [← e]
      rcases List.mem_cons.mp h1 with rfl | h1
      · exact k1
      · exact k2 _ h1
    have k4 : m ≤ m' := by
      rcases foldl_max_mem r x with q | q
      · rw [← e, q]; exact h2 x (by simp)
      · rw [← e]; exact h2 _ (List.mem_cons_of_mem _ q)
    omega
theorem minI_uniq {ns : List Int} {m m' : Int} (h : minI ns = some m) (h1 : m' ∈ ns) (h2 : ∀ y ∈ ns, m' ≤ y) : m' = m := by
  cases ns with
  | nil => cases h
  | cons x r =>
    have e : r.foldl min x = m := Option.some.inj h
    obtain ⟨k1, k2⟩ := foldl_min_le r x
    have k3 : m ≤ m' := by
      rw [← e]
      rcases List.mem_cons.mp h1 with rfl | h1
      · exact k1
      · exact k2 _ h1
    have k4 : m' ≤ m := by
      rcases foldl_min_mem r x with q | q
      · rw [← e, q]; exact h2 x (by simp)
      · rw [← e]; exact h2 _ (List.mem_cons_of_mem _ q)
    omega
def gMax : List D → Option D
  | [.int i, .int j] => some (.int (if j > i then j else i))
  | xs => gOfInts (fun ns => (maxI ns).map D.int) xs
def gMin : List D → Option D
  | [.int i, .int j] => some (.int (if j < i then j else i))
  | xs => gOfInts (fun ns => (minI ns).map D.int) xs
theorem cs_max : CallS (.builtin "max") gMax := by
  intro W N sc X gd F H xs dxs r hs hx e Q k
  unfold gMax at e
  split at e
  · rename_i i j
    cases e
    obtain ⟨x, y, rfl, h1, h2⟩ := hx.two
    obtain rfl := h1.int_
    obtain rfl := h2.int_
    exact ⟨_, call_max2 gd.calm, i, j, rfl, k _ F H (.refl hs) (.int _)⟩
  · obtain ⟨x, ns, rfl, e1, e2⟩ := gOfInts_some e
    cases e3 : maxI ns with
    | none => simp [e3] at e2
    | some m =>
      simp only [e3, Option.map_some, Option.some.injEq] at e2
      subst e2
      obtain ⟨v, rfl, h⟩ := hx.one
      obtain ⟨p, vs, rfl, q, rs⟩ := h.lstOf hs e1
      rw [rs.intsV] at q
      refine ⟨_, cr_max gd.calm, p, ns, rfl, by rw [gd.K]; exact q, by cases ns with | nil => cases e3 | cons _ _ => simp, fun m' h1 h2 => ?_⟩
      rw [maxI_uniq e3 h1 h2]
      exact k _ F H (.refl hs) (.int _)
theorem cs_min : CallS (.builtin "min") gMin := by
  intro W N sc X gd F H xs dxs r hs hx e Q k
  unfold gMin at e
  split at e
  · rename_i i j
    cases e
    obtain ⟨x, y, rfl, h1, h2⟩ := hx.two
    obtain rfl := h1.int_
    obtain rfl := h2.int_
    exact ⟨_, call_min2 gd.calm, i, j, rfl, k _ F H (.refl hs) (.int _)⟩
  · obtain ⟨x, ns, rfl, e1, e2⟩ := gOfInts_some e
    cases e3 : minI ns with
    | none => simp [e3] at e2
    | some m =>
      simp only [e3, Option.map_some, Option.some.injEq] at e2
      subst e2
      obtain ⟨v, rfl, h⟩ := hx.one
      obtain ⟨p, vs, rfl, q, rs⟩ := h.lstOf hs e1
      rw [rs.intsV] at q
      refine ⟨_, cr_min gd.calm, p, ns, rfl, by rw [gd.K]; exact q, by cases ns with | nil => cases e3 | cons _ _ => simp, fun m' h1 h2 => ?_⟩
      rw [minI_uniq e3 h1 h2]
      exact k _ F H (.refl hs) (.int _)
def gOfBls (g : List Bool → D) : List D → Option D
  | [.lst ds] => match blsD ds with
    | some ns => some (g ns)
    | none => none
  | _ => none
theorem gOfBls_some {g : List Bool → D} {xs : List D} {r : D} (h : gOfBls g xs = some r) : ∃ ns, xs = [.lst (ns.map D.bl)] ∧ r = g ns := by
  unfold gOfBls at h
  split at h
  rotate_left
  · cases h
  rename_i ds
  split at h
  rotate_left
  · cases h
  rename_i ns e2
  cases h
  exact ⟨ns, by rw [blsD_eq e2], rfl⟩
def gAll : List D → Option D := gOfBls fun bs => .bl (bs.all id)
def gAny : List D → Option D := gOfBls fun bs => .bl (bs.any id)
theorem cs_all : CallS (.builtin "all") gAll := by
  intro W N sc X gd F H xs dxs r hs hx e Q k
  obtain ⟨ns, rfl, rfl⟩ := gOfBls_some e
  obtain ⟨v, rfl, h⟩ := hx.one
  obtain ⟨p, vs, rfl, q, rs⟩ := h.lst_ hs
  rw [rs.blsV] at q
  exact ⟨_, cr_all gd.calm, p, ns, rfl, .of q, k _ F H (.refl hs) (.bl _)⟩
theorem cs_any : CallS (.builtin "any") gAny := by
  intro W N sc X gd F H xs dxs r hs hx e Q k
  obtain ⟨ns, rfl, rfl⟩ := gOfBls_some e
  obtain ⟨v, rfl, h⟩ := hx.one
  obtain ⟨p, vs, rfl, q, rs⟩ := h.lst_ hs
  rw [rs.blsV] at q
  exact ⟨_, cr_any gd.calm, p, ns, rfl, .of q, k _ F H (.refl hs) (.bl _)⟩
/-! ### int, bool, str, tuple -/
def gInt : List D → Option D
  | [.int i] => some (.int i)
  | [.bl b] => some (.int (if b then 1 else 0))
  | _ => none
theorem cs_int : CallS (.type "int") gInt := by
  intro W N sc X gd F H xs dxs r hs hx e Q k
  unfold gInt at e
  split at e
  · cases e
    obtain ⟨v, rfl, h⟩ := hx.one
    obtain rfl := h.int_
    exact ⟨_, call_int1, .inl ⟨_, rfl, k _ F H (.refl hs) (.int _)⟩⟩
  · cases e
    obtain ⟨v, rfl, h⟩ := hx.one
    obtain rfl := h.bl_
    exact ⟨_, call_int1, .inr ⟨_, rfl, k _ F H (.refl hs) (.int _)⟩⟩
  · cases e
def gBool : List D → Option D
  | [.int i] => some (.bl (i != 0))
  | [.bl b] => some (.bl b)
  | _ => none
theorem cs_bool : CallS (.type "bool") gBool := by
  intro W N sc X gd F H xs dxs r hs hx e Q k
  unfold gBool at e
  split at e
  · cases e
    obtain ⟨v, rfl, h⟩ := hx.one
    obtain rfl := h.int_
    exact ⟨_, call_bool1, .inl ⟨_, rfl, k _ F H (.refl hs) (.bl _)⟩⟩
  · cases e
    obtain ⟨v, rfl, h⟩ := hx.one
    obtain rfl := h.bl_
    exact ⟨_, call_bool1, .inr ⟨_, rfl, k _ F H (.refl hs) (.bl _)⟩⟩
  · cases e
def gStr : List D → Option D
  | [.int i] => if i.natAbs < 10 ^ 18 then some (.str (toString i : String)) else none
  | [.str x] => some (.str x)
  | _ => none
theorem log2_lt18 {n : Nat} (h : n < 10 ^ 18) : n.log2 < 1920 := by
  by_cases h0 : n = 0
  · subst h0; decide
  · have := (Nat.log2_lt h0 (k := 60)).mpr (Nat.lt_of_lt_of_le h (by decide))
    omega
theorem cs_str : CallS (.type "str") gStr := by
  intro W N sc X gd F H xs dxs r hs hx e Q k
  unfold gStr at e
  split at e
  · split at e
    · rename_i i hz
      cases e
      obtain ⟨v, rfl, h⟩ := hx.one
      obtain rfl := h.int_
      exact ⟨_, call_str_int, _, rfl, log2_lt18 hz, k _ F H (.refl hs) (.str _)⟩
    · cases e
  · cases e
    obtain ⟨v, rfl, h⟩ := hx.one
    obtain rfl := h.str_
    exact ⟨_, SkE.call_str_str, _, rfl, k _ F H (.refl hs) (.str _)⟩
  · cases e
def gTuple : List D → Option D
  | [.tup ds] => some (.tup ds)
  | [.lst ds] => some (.tup ds)
  | [.scr ns] => some (.tup (ns.map D.int))
  | _ => none
theorem cs_tuple : CallS (.type "tuple") gTuple := by
  intro W N sc X gd F H xs dxs r hs hx e Q k
  have key : ∀ p vs ds, xs = [.ref p] → r = .tup ds → SqL X.K H p vs → Reps W.K W.cA F vs ds → cStar X (.type "tuple") xs H Q := fun p vs ds e1 e2 q rs => by
    subst e1 e2
    refine ⟨_, call_tuple_of, p, vs, rfl, .inl ⟨q, fun l hl => ?_⟩⟩
    have n := New.one (o := .tup vs) hs hl
    exact k _ _ _ n (.tup (.inl (.inl upd_same)) (rs.mono n.fr))
  unfold gTuple at e
  split at e
  · cases e
    obtain ⟨v, rfl, h⟩ := hx.one
    obtain ⟨p, vs, rfl, q, rs⟩ := h.tupF.tup_
    exact ⟨_, call_tuple_of, p, vs, rfl, .inr ⟨by rw [gd.K]; exact hs.sqT q, k _ F H (.refl hs) (.tup q rs)⟩⟩
  · cases e
    obtain ⟨v, rfl, h⟩ := hx.one
    obtain ⟨p, vs, rfl, q, rs⟩ := h.lst_ hs
    exact key p vs _ rfl rfl (.of q) rs
  · cases e
    obtain ⟨v, rfl, h⟩ := hx.one
    obtain ⟨p, rfl, q⟩ := h.scr_ hs
    exact key p _ _ rfl rfl (by rw [gd.K]; exact q) .ints
  · cases e
/-! ### new lists, dicts -/
def CallFS (f : Value) (g : List D → Option Cell) : Prop :=
  ∀ (W : Wd) (N : List Str) (sc : Scp) (X : Cx), Gd W N sc X → ∀ (F H : Hp) (xs : List V) (dxs : List D) (c : Cell), SubH F H → VReps W.K W.cA F H xs dxs → g dxs = some c →
    ∀ Q : VK, (∀ p o, H p = none → notFrz c = true → CellR W.K W.cA F (upd H p o) p c → Q (.ref p) (upd H p o)) → cStar X f xs H Q
def cCall (g : List D → Option Cell) (fa : AF) : CF := fun env M => match fa env M with
  | some (ss, M1) => match views M1 ss with
    | some xs => match g xs with
      | some r => some (r, M1)
      | none => none
    | none => none
  | none => none
section
variable {W : Wd} {N : List Str} {sc : Scp} {a b c : Expr} {fa fb fc : EF} {es : List Expr} {ga : AF} {pos : Pos}
theorem tFr_call {X : Cx} (gd : Gd W N sc X) {f : Value} {g : List D → Option Cell} (ho : CallFS f g) : ∀ σ H Q, tFr W (cCall g ga) σ H Q → tCB (cStar X f) (tAv W ga) σ H Q := by
  intro σ H Q h
  obtain ⟨env, M, c, M', F, κ, e, t, er, k⟩ := h
  unfold cCall at e
  split at e
  rotate_left
  · cases e
  rename_i ss M1 e1
  split at e
  rotate_left
  · cases e
  rename_i xs e2
  split at e
  rotate_left
  · cases e
  rename_i r e3
  simp only [Option.some.injEq, Prod.mk.injEq] at e
  obtain ⟨rfl, rfl⟩ := e
  refine ⟨env, M, ss, M1, F, κ, e1, t, er, fun F1 κ1 H1 vs x1 t1 rs => ?_⟩
  refine ho W N sc X gd F1 H1 vs xs r t1.sub (t1.views rs e2) e3 Q fun p o hp hn hc => ?_
  exact k F1 κ1 _ p x1 (t1.new (New.oneH t1.sub hp)) (t1.fresh hp) hn hc
theorem df_callB {id : String} {x : Str} {p : Pos} {g : List D → Option Cell} (hc : CallFS (.builtin id) g) (hf : Free W sc x) (hv : bootBuiltins x = some (.builtin id)) (hst : notStar a = true) (hss : es.all notStar = true) (ha : DA W N sc (a :: es) ga)
    (hn : x ≠ "__name__") (hdb : (x == ("__debug__" : Str)) = false) : DF W N sc (.Call (.Name x p) (a :: es) [] pos) (cCall g ga) := fun X gd =>
  PE.imp (pe_callB (CallR.star X _) (gd.gl hf.1) (by rw [gd.mg]; exact hf.2) hv (ha X gd) hn hdb (star_cons hst _ _) (plain_args hss _ _)) (tFr_call gd hc)
theorem df_callT {T : String} {x : Str} {p : Pos} {g : List D → Option Cell} (hc : CallFS (.type T) g) (hf : Free W sc x) (hv : bootBuiltins x = some (.type T)) (hst : notStar a = true) (hss : es.all notStar = true) (ha : DA W N sc (a :: es) ga)
    (hn : x ≠ "__name__") (hdb : (x == ("__debug__" : Str)) = false) : DF W N sc (.Call (.Name x p) (a :: es) [] pos) (cCall g ga) := fun X gd =>
  PE.imp (pe_callTy (CallR.star X _) (gd.gl hf.1) (by rw [gd.mg]; exact hf.2) hv (ha X gd) hn hdb (star_cons hst _ _) (plain_args hss _ _)) (tFr_call gd hc)
end
/-- list(x) -/
def cList : List D → Option Cell
  | [x] => match itemsOf x with
    | some ds => some (.lst ds)
    | none => none
  | _ => none
theorem cf_list : CallFS (.type "list") cList := by
  intro W N sc X gd F H xs dxs c hs hx e Q k
  unfold cList at e
  split at e
  rotate_left
  · cases e
  rename_i x
  split at e
  rotate_left
  · cases e
  rename_i ds e1
  cases e
  obtain ⟨v, rfl, h⟩ := hx.one
  obtain ⟨p, vs, rfl, q, rs⟩ := h.seq hs e1
  refine ⟨_, call_list_of, p, vs, rfl, by rw [gd.K]; exact q, fun l hl => ?_⟩
  exact k l _ hl rfl ⟨hs.none hl, vs, upd_same, rs⟩
/-- insertion: numbers -/
def insI (x : Int) : List Int → List Int
  | [] => [x]
  | y :: r => if x ≤ y then x :: y :: r else y :: insI x r
def sortI : List Int → List Int
  | [] => []
  | x :: r => insI x (sortI r)
theorem insI_perm (x : Int) : ∀ r : List Int, (insI x r).Perm (x :: r)
  | [] => .refl _
  | y :: r => by
    unfold insI
    split
    · exact .refl _
    · exact ((insI_perm x r).cons y).trans (.swap x y r)
theorem sortI_perm : ∀ r : List Int, (sortI r).Perm r
  | [] => .refl _
  | x :: r => (insI_perm x _).trans ((sortI_perm r).cons x)
theorem insI_sorted (x : Int) : ∀ {r : List Int}, r.Pairwise (· ≤ ·) → (insI x r).Pairwise (· ≤ ·)
  | [], _ => by simp [insI]
  | y :: r, h => by
    unfold insI
    obtain ⟨h1, h2⟩ := List.pairwise_cons.mp h
    split
    · rename_i hxy
      refine List.pairwise_cons.mpr ⟨fun z hz => ?_, h⟩
      rcases List.mem_cons.mp hz with rfl | hz
      · exact hxy
      · have := h1 z hz; omega
    · rename_i hxy
      refine List.pairwise_cons.mpr ⟨fun z hz => ?_, insI_sorted x h2⟩
      rcases List.mem_cons.mp ((insI_perm x r).mem_iff.mp hz) with rfl | hz
      · omega
      · exact h1 z hz
theorem sortI_sorted : ∀ r : List Int, (sortI r).Pairwise (· ≤ ·)
  | [] => .nil
  | x :: r => insI_sorted x (sortI_sorted r)
theorem sortI_uniq {ns ms : List Int} (h1 : ms.Perm ns) (h2 : ms.Pairwise (· ≤ ·)) : ms = sortI ns :=
  List.Perm.eq_of_pairwise (le := (· ≤ ·)) (fun a b _ _ h1 h2 => Int.le_antisymm h1 h2) h2 (sortI_sorted ns) (h1.trans (sortI_perm ns).symm)
def cSorted : List D → Option Cell
  | [x] => match lstOf x with
    | some ds => match intsD ds with
      | some ns => some (.lst ((sortI ns).map D.int))
      | none => none
    | none => none
  | _ => none
theorem cf_sorted : CallFS (.builtin "sorted") cSorted := by
  intro W N sc X gd F H xs dxs c hs hx e Q k
  unfold cSorted at e
  split at e
  rotate_left
  · cases e
  rename_i x
  split at e
  rotate_left
  · cases e
  rename_i ds e1
  split at e
  rotate_left
  · cases e
  rename_i ns e2
  cases e
  obtain ⟨v, rfl, h⟩ := hx.one
  obtain ⟨p, vs, rfl, q, rs⟩ := h.lstOf hs e1
  rw [intsD_eq e2] at rs
  rw [rs.intsV] at q
  refine ⟨_, cr_sortedI, p, ns, rfl, by rw [gd.K]; exact q, fun ms l h1 h2 hl => ?_⟩
  rw [sortI_uniq h1 h2]
  exact k l _ hl rfl ⟨hs.none hl, _, upd_same, .ints⟩
/-- dict(x), a list of pairs or a dict -/
def pairsD : List D → Option (List (Key × D))
  | [] => some []
  | .tup [k, v] :: r => match keyD k with
    | some q => match pairsD r with
      | some kvs => some ((q, v) :: kvs)
      | none => none
    | none => none
  | _ => none
def mergeD (kds more : List (Key × D)) : List (Key × D) := more.foldl (fun acc kv => putD acc kv.1 kv.2) kds
def cDict : List D → Option Cell
  | [.lst ds] => match pairsD ds with
    | some kvs => some (.dct (mergeD [] kvs))
    | none => none
  | [.dct kds] => some (.dct kds)
  | _ => none
theorem pairsD_cons {d : D} {r : List D} {kds : List (Key × D)} (h : pairsD (d :: r) = some kds) : ∃ k v q kvs, d = .tup [k, v] ∧ keyD k = some q ∧ pairsD r = some kvs ∧ kds = (q, v) :: kvs := by
  unfold pairsD at h
  split at h
  · rename_i e; cases e
  · rename_i e
    injection e with e1 e2
    subst e1 e2
    rename_i k v
    split at h
    rotate_left
    · cases h
    rename_i q e3
    split at h
    rotate_left
    · cases h
    rename_i kvs e4
    cases h
    exact ⟨k, v, q, kvs, rfl, e3, e4, rfl⟩
  · cases h
theorem pairs_rep {K : PySem.W.Frag} {cA : Str → Option Addr} {F H : Hp} (hs : SubH F H) : ∀ {ds : List D} {vs : List V} {kds : List (Key × D)}, Reps K cA F vs ds → pairsD ds = some kds →
    ∃ (ps : List Addr) (kvs : List (Key × V)), vs = ps.map V.ref ∧ Paired (fun p kv => SqT K H p [kV kv.1, kv.2]) ps kvs ∧ kvs.map (·.1) = kds.map (·.1) ∧ Reps K cA F (kvs.map (·.2)) (kds.map (·.2))
  | [], vs, kds, r, h => by
    cases h; cases r
    exact ⟨[], [], rfl, .nil, rfl, .nil⟩
  | d :: ds, vs, kds, r, h => by
    obtain ⟨k, v, q, kvs, rfl, e1, e2, rfl⟩ := pairsD_cons h
    cases r with
    | cons r rr =>
      obtain ⟨ps, kvs', h1, h2, h3, h4⟩ := pairs_rep hs rr e2
      obtain ⟨p, ws, rfl, sq, rs⟩ := r.tup_
      cases rs with
      | cons ra rs =>
        cases rs with
        | cons rb rs =>
          cases rs
          have := keyD_rep (H := H) (.rep ra) e1
          subst this
          rename_i w
          exact ⟨p :: ps, (q, w) :: kvs', by rw [h1]; rfl, .cons (hs.sqT sq) h2, by simp [h3], .cons rb h4⟩
theorem merge_rep {K : PySem.W.Frag} {cA : Str → Option Addr} {F : Hp} : ∀ {more : List (Key × V)} {mored : List (Key × D)} {kvs : List (Key × V)} {kds : List (Key × D)}, more.map (·.1) = mored.map (·.1) → Reps K cA F (more.map (·.2)) (mored.map (·.2)) → kvs.map (·.1) = kds.map (·.1) → Reps K cA F (kvs.map (·.2)) (kds.map (·.2)) →
    (mergeK kvs more).map (·.1) = (mergeD kds mored).map (·.1) ∧ Reps K cA F ((mergeK kvs more).map (·.2)) ((mergeD kds mored).map (·.2))
  | [], [], kvs, kds, _, _, h1, h2 => ⟨h1, h2⟩
  | [], _ :: _, _, _, e, _, _, _ => by simp at e
  | _ :: _, [], _, _, e, _, _, _ => by simp at e
  | (k, v) :: more, (k', d) :: mored, kvs, kds, e, r, h1, h2 => by
    simp only [List.map_cons, List.cons.injEq] at e
    obtain ⟨rfl, e⟩ := e
    cases r with
    | cons r rr =>
      obtain ⟨p1, p2⟩ := put_rep (k := k) h1 h2 r
      have := merge_rep (kvs := putK kvs k v) (kds := putD kds k d) e rr p1 p2
      exact this
theorem cf_dict : CallFS (.type "dict") cDict := by
  intro W N sc X gd F H xs dxs c hs hx e Q k
  unfold cDict at e
  split at e
  · split at e
    rotate_left
    · cases e
    rename_i ds kds e1
    cases e
    obtain ⟨v, rfl, h⟩ := hx.one
    obtain ⟨p, vs, rfl, q, rs⟩ := h.lst_ hs
    obtain ⟨ps, kvs, e2, h2, h3, h4⟩ := pairs_rep hs rs e1
    subst e2
    refine ⟨_, call_dictP gd.calm, p, ps, kvs, rfl, .of q, by rw [gd.K]; exact h2, fun l hl => ?_⟩
    obtain ⟨m1, m2⟩ := merge_rep (kvs := []) (kds := []) h3 h4 rfl .nil
    exact k l _ hl rfl ⟨hs.none hl, _, upd_same, m1, m2⟩
  · rename_i kds
    cases e
    obtain ⟨v, rfl, h⟩ := hx.one
    obtain ⟨p, kvs, rfl, q, en, rs⟩ := h.dct0 hs
    refine ⟨_, call_dictD, p, kvs, rfl, q, fun l hl => ?_⟩
    exact k l _ hl rfl ⟨hs.none hl, _, upd_same, en, rs⟩
  · cases e
end G
/-! A def by its body. -/
namespace G
open PySem L2
/-- the slots at a def's begin -/
def env0 (nN : Nat) (ss : List S) : Ev := ss.map some ++ List.replicate (nN - ss.length) none
/-- what a def means: its result is changed no more, its cells are dropped -/
def fnD (np nN : Nat) (body : SF) : FSem := fun ss M => if ss.length = np then match body (env0 nN ss) M with
    | some (.rt s M1) => match frz M1 s with
      | some (d, M2) => if M.length ≤ M2.length then some (.d d, M2.take M.length) else none
      | none => none
    | some (.nx _ M1) => if M.length ≤ M1.length then some (.d .non, M1.take M.length) else none
    | _ => none
  else none
/-- .. its result may be changed -/
def fnL (np nN : Nat) (body : SF) : FSem := fun ss M => if ss.length = np then match body (env0 nN ss) M with
    | some (.rt s M1) => some (s, M1)
    | some (.nx _ M1) => some (.d .non, M1)
    | _ => none
  else none
theorem start_env {K : PySem.W.Frag} {cA : Str → Option Addr} {F : Hp} {κ : List Addr} {N : List Str} {vs : List V} {ss : List S} (h : SReps K cA F κ vs ss) : EnvR K cA F κ (L2.start N vs) (env0 N.length ss) := by
  have hl := h.length
  refine ⟨by simp [L2.start, env0, hl], fun i s q => ?_⟩
  have key : ∀ {vs : List V} {ss : List S}, SReps K cA F κ vs ss → ∀ (i : Nat) (s : S), ss[i]? = some s → ∃ v, vs[i]? = some v ∧ SRep K cA F κ v s := fun {vs ss} h => by
    induction h with
    | nil => intro i s e; simp at e
    | cons r t ih =>
      intro i s e
      cases i with
      | zero => simp at e; subst e; exact ⟨_, rfl, r⟩
      | succ i => obtain ⟨v, a, b⟩ := ih i s (by simpa using e); exact ⟨v, by simpa using a, b⟩
  unfold env0 at q
  by_cases hi : i < ss.length
  · rw [List.getElem?_append_left (by simpa using hi), List.getElem?_map] at q
    cases e : ss[i]? with
    | none => rw [e] at q; cases q
    | some s' =>
      rw [e] at q
      cases q
      obtain ⟨v, a, b⟩ := key h i s e
      refine ⟨v, ?_, b⟩
      unfold L2.start
      rw [List.getElem?_append_left (by simp; omega), List.getElem?_map, a]
      all_goals rfl
  · rw [List.getElem?_append_right (by simp; omega)] at q
    rw [List.getElem?_replicate] at q
    split at q
    · cases q
    · cases q
/-- one level deeper -/
def Wd.at (W : Wd) (k : Nat) : Wd := { W with k := k }
theorem gd_of {W : Wd} {N ps : List Str} {qual : Str} {scope : Scope} {f : Addr} {cdv : Value} {A : Around} {outer : List Env} {s : Shared} {H : Hp} {E : XK} {k : Nat} (S : FnScope N ps scope) (hr : Room k (A.deeper (PyProof.Rows.envOfC qual scope s.heap.objs.size f cdv))) (fs : Str → Bool) :
    Gd (W.at k) N { scope with fs := fs } (cxOf CX0 W.P W.w W.K W.mg W.base N qual scope f cdv A outer s H E).nox :=
  ⟨rfl, rfl, rfl, rfl, rfl, rfl, rfl, rfl, hr, S.nd, fun _ _ => rfl, rfl⟩
theorem SReps.len {K : PySem.W.Frag} {cA : Str → Option Addr} {F : Hp} {κ : List Addr} {vs : List V} {ss : List S} (h : SReps K cA F κ vs ss) : vs.length = ss.length := h.length
theorem Stt.cut {K : PySem.W.Frag} {cA : Str → Option Addr} {F F' H H' : Hp} {κ κ' : List Addr} {M M' : Ms} (t : Stt K cA F H κ M) (x : Ext F κ F' κ') (t' : Stt K cA F' H' κ' M') : Ext F κ F' κ ∧ Stt K cA F' H' κ (M'.take M.length) := by
  obtain ⟨hs, m, hm⟩ := x
  have e : κ'.take M.length = κ := by rw [hm, ← t.len]; simp
  have q := t'.take M.length
  rw [e] at q
  exact ⟨.sub' hs, q⟩
section
variable {W : Wd} {N ps : List Str} {x qual : Str} {params : Arguments} {body : List Stmt} {scope : Scope} {f : Addr} {fd : FuncData} {k : Nat} {F : SF} {fs : Str → Bool}
theorem fnok_of (D : FunD W.K x qual params body scope [] [] f fd) (S : FnScope N ps scope) (h : DB (W.at k) N { scope with fs := fs } body F) : FnOk W.P W.w W.K W.mg W.base CX0 (k + 1) f fd ps (spG W (fnD ps.length N.length F)) := by
  refine D.ok S (fun vs H Q E h => ?_) (fun cdv A outer s H vs Q E hr hsp => ?_)
  · obtain ⟨F0, κ, M, ss, s, M', rs, e, _⟩ := h
    rw [rs.length]
    unfold fnD at e
    split at e
    · rename_i hl; exact hl
    · cases e
  · refine ⟨_, (h _ (gd_of S hr fs)).nox, ?_⟩
    obtain ⟨F0, κ, M, ss, r0, M', rs, e, t, q⟩ := hsp
    unfold fnD at e
    split at e
    rotate_left
    · cases e
    split at e
    · rename_i s1 M1 e1
      split at e
      rotate_left
      · cases e
      rename_i d M2 e2
      split at e
      rotate_left
      · cases e
      rename_i hl
      simp only [Option.some.injEq, Prod.mk.injEq] at e
      obtain ⟨rfl, rfl⟩ := e
      refine ⟨_, M, _, F0, κ, e1, t, start_env rs, fun F1 κ1 H1 v x1 t1 r1 => ?_⟩
      obtain ⟨F2, x2, t2, r2⟩ := Stt.frz (show Stt W.K W.cA F1 H1 κ1 M1 from t1) r1 e2
      obtain ⟨x3, t3⟩ := t.cut (x1.trans x2) t2
      exact q F2 κ H1 v x3 t3 r2
    · rename_i env' M1 e1
      split at e
      rotate_left
      · cases e
      rename_i hl
      simp only [Option.some.injEq, Prod.mk.injEq] at e
      obtain ⟨rfl, rfl⟩ := e
      refine ⟨_, M, _, F0, κ, e1, t, start_env rs, fun F1 κ1 H1 σ1 x1 t1 er1 => ?_⟩
      obtain ⟨x3, t3⟩ := t.cut x1 t1
      exact q F1 κ H1 .non x3 t3 (show Rep W.K W.cA F1 .non .non from .non)
    · cases e
theorem fnok_ofL (D : FunD W.K x qual params body scope [] [] f fd) (S : FnScope N ps scope) (h : DB (W.at k) N { scope with fs := fs } body F) : FnOk W.P W.w W.K W.mg W.base CX0 (k + 1) f fd ps (spG W (fnL ps.length N.length F)) := by
  refine D.ok S (fun vs H Q E h => ?_) (fun cdv A outer s H vs Q E hr hsp => ?_)
  · obtain ⟨F0, κ, M, ss, s, M', rs, e, _⟩ := h
    rw [rs.length]
    unfold fnL at e
    split at e
    · rename_i hl; exact hl
    · cases e
  · refine ⟨_, (h _ (gd_of S hr fs)).nox, ?_⟩
    obtain ⟨F0, κ, M, ss, r0, M', rs, e, t, q⟩ := hsp
    unfold fnL at e
    split at e
    rotate_left
    · cases e
    split at e
    · rename_i s1 M1 e1
      simp only [Option.some.injEq, Prod.mk.injEq] at e
      obtain ⟨rfl, rfl⟩ := e
      exact ⟨_, M, _, F0, κ, e1, t, start_env rs, fun F1 κ1 H1 v x1 t1 r1 => q F1 κ1 H1 v x1 t1 r1⟩
    · rename_i env' M1 e1
      simp only [Option.some.injEq, Prod.mk.injEq] at e
      obtain ⟨rfl, rfl⟩ := e
      exact ⟨_, M, _, F0, κ, e1, t, start_env rs, fun F1 κ1 H1 σ1 x1 t1 er1 => q F1 κ1 H1 .non x1 t1 (show Rep W.K W.cA F1 .non .non from .non)⟩
    · cases e
theorem fnHas_of (D : FunD W.K x qual params body scope [] [] f fd) (S : FnScope N ps scope) (hm : W.mg x = some (.ref f)) (hb : Binds W.K fd ps []) (h : DB (W.at k) N { scope with fs := fs } body F) : FnHas (W.at (k + 1)) x (fnD ps.length N.length F) :=
  ⟨f, fd, ps, hm, D.kp, hb, fnok_of (W := W) (k := k) D S h⟩
theorem fnHas_ofL (D : FunD W.K x qual params body scope [] [] f fd) (S : FnScope N ps scope) (hm : W.mg x = some (.ref f)) (hb : Binds W.K fd ps []) (h : DB (W.at k) N { scope with fs := fs } body F) : FnHas (W.at (k + 1)) x (fnL ps.length N.length F) :=
  ⟨f, fd, ps, hm, D.kp, hb, fnok_ofL (W := W) (k := k) D S h⟩
theorem methHas_of {c m : Str} (D : ∀ C, W.cA c = some C → ∃ f fd, FunD W.K x qual params body scope [] [] f fd ∧ Meth W.K C m f ∧ Binds W.K fd ps []) (S : FnScope N ps scope) (h : DB (W.at k) N { scope with fs := fs } body F) : MethHas (W.at (k + 1)) c m (fnD ps.length N.length F) := fun C hC =>
  let ⟨f, fd, d, hm, hb⟩ := D C hC
  ⟨f, fd, ps, hm, hb, fnok_of (W := W) (k := k) d S h⟩
theorem methHas_ofL {c m : Str} (D : ∀ C, W.cA c = some C → ∃ f fd, FunD W.K x qual params body scope [] [] f fd ∧ Meth W.K C m f ∧ Binds W.K fd ps []) (S : FnScope N ps scope) (h : DB (W.at k) N { scope with fs := fs } body F) : MethHas (W.at (k + 1)) c m (fnL ps.length N.length F) := fun C hC =>
  let ⟨f, fd, d, hm, hb⟩ := D C hC
  ⟨f, fd, ps, hm, hb, fnok_ofL (W := W) (k := k) d S h⟩
theorem mkHas_of {c : Str} {C : Addr} (hC : W.cA c = some C) (hm : W.mg c = some (.ref C)) (M : Mk W.K C f) (D : FunD W.K x qual params body scope [] [] f fd) (hb : Binds W.K fd ps []) (S : FnScope N ps scope) (h : DB (W.at k) N { scope with fs := fs } body F) : MkHas (W.at (k + 2)) c (fnD ps.length N.length F) :=
  ⟨C, f, fd, ps, k + 1, hC, hm, M, hb, fnok_of (W := W) (k := k) D S h, rfl⟩
theorem FnHas.lift {x : Str} {f : FSem} {j k : Nat} (h : FnHas (W.at j) x f) (hjk : j ≤ k) : FnHas (W.at k) x f := by
  obtain ⟨fa, fd, ps, a, b, c, d⟩ := h
  exact ⟨fa, fd, ps, a, b, c, d.mono hjk⟩
theorem MethHas.lift {c m : Str} {f : FSem} {j k : Nat} (h : MethHas (W.at j) c m f) (hjk : j ≤ k) : MethHas (W.at k) c m f := fun C hC => by
  obtain ⟨fa, fd, ps, a, b, d⟩ := h C hC
  exact ⟨fa, fd, ps, a, b, d.mono hjk⟩
theorem MkHas.lift {c : Str} {f : FSem} {j k : Nat} (h : MkHas (W.at j) c f) (hjk : j ≤ k) : MkHas (W.at k) c f := by
  obtain ⟨C, fa, fd, ps, i, a, b, cc, d, e, hi⟩ := h
  have hi : i + 1 = j := hi
  exact ⟨C, fa, fd, ps, k - 1, a, b, cc, d, e.mono (by omega), by show k - 1 + 1 = k; omega⟩
end
/-! ### names, at once -/
def vOk (N : List Str) (sc : Scp) (i : Nat) (x : Str) : Bool := decide (N[i]? = some x) && ((sc.names.lookup x == some .local) || (sc.names.lookup x == some .cell) || (sc.names.lookup x == some .free)) && !(x == ("__debug__" : Str)) && !(x == ("__classdict__" : Str))
def sOk (N : List Str) (sc : Scp) (i : Nat) (x : Str) : Bool := decide (N[i]? = some x) && ((sc.names.lookup x == some .local) || ((sc.names.lookup x == some .cell) && sc.fs x))
def gOk (sc : Scp) (x : Str) : Bool := (sc.names.lookup x == some .globalImplicit) && !(x == ("__debug__" : Str)) && !decide (x = "__name__")
def lOk (N : List Str) (sc : Scp) (i : Nat) (x : Str) : Bool := decide (N[i]? = some x) && (sc.names.lookup x == some .local)
section
variable {W : Wd} {N : List Str} {sc : Scp} {x : Str} {i : Nat} {pos : Pos}
theorem vOk_v (h : vOk N sc i x = true) : DE W N sc (.Name x pos) (eVar i) := by
  unfold vOk at h
  simp only [Bool.and_eq_true, Bool.or_eq_true, beq_iff_eq, decide_eq_true_eq, Bool.not_eq_true'] at h
  obtain ⟨⟨⟨h1, h2⟩, h3⟩, h4⟩ := h
  refine de_var h1 ?_ h3 h4
  rcases h2 with (h2 | h2) | h2
  · exact .inl h2
  · exact .inr (.inl h2)
  · exact .inr (.inr h2)
theorem sOk_s (h : sOk N sc i x = true) : N[i]? = some x ∧ L2.Loc sc.toScope x ∧ (sc.fs x = true ∨ sc.names.lookup x = some .local) := by
  unfold sOk at h
  simp only [Bool.and_eq_true, Bool.or_eq_true, beq_iff_eq, decide_eq_true_eq] at h
  obtain ⟨h1, h2⟩ := h
  rcases h2 with h2 | ⟨h2, h3⟩
  · exact ⟨h1, .inl h2, .inr h2⟩
  · exact ⟨h1, .inr h2, .inl h3⟩
theorem gOk_g (h : gOk sc x = true) : sc.names.lookup x = some .globalImplicit ∧ (x == ("__debug__" : Str)) = false ∧ x ≠ "__name__" := by
  unfold gOk at h
  simp only [Bool.and_eq_true, beq_iff_eq, Bool.not_eq_true', decide_eq_false_iff_not] at h
  exact ⟨h.1.1, h.1.2, h.2⟩
theorem lOk_l (h : lOk N sc i x = true) : N[i]? = some x ∧ sc.names.lookup x = some .local := by
  unfold lOk at h
  simp only [Bool.and_eq_true, beq_iff_eq, decide_eq_true_eq] at h
  exact h
end
end G
/-! What the top has written, looked at once; the law's end. -/
namespace G
open PySem L2
inductive Fx where
  | free (x : Str) | cls (c : Str) | noat (c f : Str) | meth (c m : Str) | mkr (c : Str) | kit (t u : Ty) (b : Bool) | isi (c : Str) | nf (c c' : Str) | tree (x : Str) (d : D) | notru (c : Str) | glo (x : Str) | mk0 (c : Str)
def tyVal (K : PySem.W.Frag) : Ty → Value
  | .bt n => .type n
  | .cl c => .ref (He.ga K c)
mutual
def treeB (K : PySem.W.Frag) : D → Value → Bool
  | .non, .none => true
  | .bl b, .bool c => b == c
  | .int i, .int j _ => decide (i = j)
  | .str x, .str y _ => decide (x = y)
  | .tup ds, .ref a => match K.lookup a with
    | some ⟨.type c, _, .seq its _, _⟩ => decide (c = "tuple") && decide (its.size ≤ sizeLine) && treesB K ds its.toList
    | _ => false
  | _, _ => false
def treesB (K : PySem.W.Frag) : List D → List Value → Bool
  | [], [] => true
  | d :: ds, v :: vs => treeB K d v && treesB K ds vs
  | _, _ => false
end
def Fx.ok (K : PySem.W.Frag) : Fx → Bool
  | .free x => He.eqO (PySem.W.nsIn K mainGlobals x) (some none)
  | .glo x => (He.Fa.glo x).ok K
  | .cls c => (He.Fa.cls c).ok K && (He.Fa.glo c).ok K
  | .noat c f => (He.Fa.noat c f).ok K
  | .meth c m => (He.Fa.meth c m).ok K
  | .mkr c => (He.Fa.mkr c).ok K
  | .kit t u b => decide (PySem.W.kitOne K (tyVal K t) (tyVal K u) = some b)
  | .isi c => He.eqO (PySem.W.findIn K (.ref (He.ga K c)) "__class__") (some (some (.builtin "object.__class__"))) && (He.eqO (PySem.W.specialIn K (.builtin "object.__class__") "__get__") (some (some (.builtin "getset_descriptor.__get__"))) &&
      (decide (PySem.W.takesIn K (.builtin "object.__class__") = some true) && decide (PySem.W.mroIn K (He.ga K c) (.type "object") = some true)))
  | .nf c c' => PySem.W.notFirst K (He.ga K c) (.ref (He.ga K c'))
  | .tree x d => match PySem.W.nsIn K mainGlobals x with
    | some (some v) => treeB K d v
    | _ => false
  | .notru c => He.eqO (PySem.W.findIn K (.ref (He.ga K c)) "__bool__") (some none) && He.eqO (PySem.W.findIn K (.ref (He.ga K c)) "__len__") (some none)
  | .mk0 c => PySem.W.makesIn K (He.ga K c) && (He.eqO (PySem.W.findIn K (.ref (He.ga K c)) "__init__") (some (some (.builtin "object.__init__"))) && PySem.W.keepIn K (.ref (He.ga K c)))
section
variable {K : PySem.W.Frag} {cA : Str → Option Addr}
mutual
theorem treeB_ok : ∀ {d : D} {u : Value}, treeB K d u = true → ∃ v, RelV v u ∧ ∀ F, Rep K cA F v d
  | .non, u, h => by
    cases u <;> first | exact ⟨.non, rfl, fun F => .non⟩ | (unfold treeB at h; cases h)
  | .bl b, u, h => by
    cases u with
    | bool c => unfold treeB at h; have := eq_of_beq h; subst this; exact ⟨.bl _, rfl, fun F => .bl _⟩
    | _ => unfold treeB at h; cases h
  | .int b, u, h => by
    cases u with
    | int c t => unfold treeB at h; have := of_decide_eq_true h; subst this; exact ⟨.int _, ⟨t, rfl⟩, fun F => .int _⟩
    | _ => unfold treeB at h; cases h
  | .str b, u, h => by
    cases u with
    | str c t => unfold treeB at h; have := of_decide_eq_true h; subst this; exact ⟨.str _, ⟨t, rfl⟩, fun F => .str _⟩
    | _ => unfold treeB at h; cases h
  | .tup ds, u, h => by
    cases u with
    | ref a =>
      unfold treeB at h
      split at h
      · rename_i c d0 its n sl q
        simp only [Bool.and_eq_true, decide_eq_true_eq] at h
        obtain ⟨⟨h1, h2⟩, h3⟩ := h
        obtain ⟨vs, r1, r2⟩ := treesB_ok h3
        exact ⟨.ref a, rfl, fun F => .tup (.inr ⟨_, its, n, q, congrArg Value.type h1, rfl, h2, r1⟩) (r2 F)⟩
      · cases h
    | _ => unfold treeB at h; cases h
  | .lst ds, u, h => by unfold treeB at h; cases u <;> cases h
  | .scr ds, u, h => by unfold treeB at h; cases u <;> cases h
  | .dct ds, u, h => by unfold treeB at h; cases u <;> cases h
  | .obj _ ds, u, h => by unfold treeB at h; cases u <;> cases h
theorem treesB_ok : ∀ {ds : List D} {us : List Value}, treesB K ds us = true → ∃ vs, Vals vs us ∧ ∀ F, Reps K cA F vs ds
  | [], [], _ => ⟨[], .nil, fun F => .nil⟩
  | [], _ :: _, h => by unfold treesB at h; cases h
  | _ :: _, [], h => by unfold treesB at h; cases h
  | d :: ds, u :: us, h => by
    unfold treesB at h
    obtain ⟨h1, h2⟩ := Bool.and_eq_true_iff.mp h
    obtain ⟨v, a1, a2⟩ := treeB_ok h1
    obtain ⟨vs, b1, b2⟩ := treesB_ok h2
    exact ⟨v :: vs, .cons a1 b1, fun F => .cons (a2 F) (b2 F)⟩
end
end
/-! ### the Hook -/
def obsX (fa : List Fx) (fn : List He.DefD) (K : PySem.W.Frag) : He.AlD := ((fa.all fun f => f.ok K) && fn.all fun d => d.ok K, fn.map fun d => He.fnW K d.at_)
def SaysX (fa : List Fx) (fn : List He.DefD) (K : PySem.W.Frag) : Prop := obsX fa fn K = He.valD fn
def obsXG (n : Nat) (fa : List Fx) (fn : List He.DefD) (g : Addr → Option Obj) : He.AlD := obsX fa fn (He.frG g (He.asD g n))
def hookX (n : Nat) (fa : List Fx) (fn : List He.DefD) : PySem.W.Hook where
  α := He.AlD
  obs := fun s => obsXG n fa fn s.heap.get?
  val := fun _ => He.valD fn
  says := fun _ h => ∃ K : PySem.W.Frag, K.In h ∧ SaysX fa fn K
  of := fun _ _ e => ⟨_, He.frG_in, e⟩
  keeps := fun _ _ _ ⟨K, hK, c⟩ k => ⟨K, PySem.W.Frag.In.keeps hK k, c⟩
theorem obsXG_eq {n : Nat} {fa : List Fx} {fn : List He.DefD} {g : Addr → Option Obj} {s : Shared} (h : ∀ a, g a = s.heap.get? a) : obsXG n fa fn g = (hookX n fa fn).obs s := by
  have e : g = s.heap.get? := funext h
  rw [e] <;> rfl
section
variable {fa : List Fx} {fn : List He.DefD} {K : PySem.W.Frag}
theorem SaysX.fact (c : SaysX fa fn K) {f : Fx} (h : f ∈ fa) : f.ok K = true := by
  have c1 := (He.ba (show ((fa.all fun f => f.ok K) && fn.all fun d => d.ok K) = true from congrArg (fun z : He.AlD => z.1) c)).1
  exact List.all_eq_true.mp c1 f h
theorem SaysX.def_ (c : SaysX fa fn K) (i : Nat) {d : He.DefD} (h : fn[i]? = some d) : ∃ fd, FunD K d.name d.qual d.params d.body d.scope (d.dvs K) (d.kws K) (He.fAd K d.at_) fd := by
  have c2 := (He.ba (show ((fa.all fun f => f.ok K) && fn.all fun d => d.ok K) = true from congrArg (fun z : He.AlD => z.1) c)).2
  have e : fn.map (fun d => He.fnW K d.at_) = fn.map He.DefD.val := congrArg (fun z : He.AlD => z.2) c
  have e2 : (fn.map fun d => He.fnW K d.at_)[i]? = (fn.map He.DefD.val)[i]? := by rw [e]
  rw [List.getElem?_map, List.getElem?_map, h] at e2
  exact He.DefD.funD (Option.some.inj e2) (List.all_eq_true.mp c2 d (List.mem_of_getElem? h))
end
/-- where the walk goes on: the row's program, the facts fa of it; the classes cs -/
def cAof (K : PySem.W.Frag) (cs : List Str) (x : Str) : Option Addr := if cs.contains x then some (He.ga K x) else none
/-- what the facts say -/
structure Low (fa : List Fx) (cs : List Str) (W : Wd) : Prop where
  fact : ∀ f ∈ fa, f.ok W.K = true
  cA : W.cA = cAof W.K cs
  ns : ∃ h : Heap, W.K.In h ∧ h.Ns mainGlobals W.mg
section
variable {fa : List Fx} {cs : List Str} {W : Wd}
theorem Low.at (L : Low fa cs W) (k : Nat) : Low fa cs (W.at k) := ⟨L.fact, L.cA, L.ns⟩
theorem Low.cls_ (L : Low fa cs W) {c : Str} {C : Addr} (h : W.cA c = some C) : cs.contains c = true ∧ C = He.ga W.K c := by
  rw [L.cA] at h
  unfold cAof at h
  split at h
  · rename_i e; cases h; exact ⟨e, rfl⟩
  · cases h
theorem Low.is_ (L : Low fa cs W) {c : Str} (h : cs.contains c = true) : W.cA c = some (He.ga W.K c) := by
  rw [L.cA]
  unfold cAof
  rw [if_pos h]
theorem Low.free (L : Low fa cs W) {x : Str} (h : Fx.free x ∈ fa) : W.mg x = none := by
  obtain ⟨hp, X, G⟩ := L.ns
  exact PySem.W.mg_none_of X G (He.eqO_ok (L.fact _ h))
theorem Low.glo (L : Low fa cs W) {x : Str} (h : Fx.glo x ∈ fa) : W.mg x = some (.ref (He.ga W.K x)) := by
  obtain ⟨hp, X, G⟩ := L.ns
  exact He.glo_ok X G (L.fact _ h)
theorem Low.cls (L : Low fa cs W) {c : Str} (h : Fx.cls c ∈ fa) : Cls W.K (He.ga W.K c) ∧ W.mg c = some (.ref (He.ga W.K c)) := by
  obtain ⟨hp, X, G⟩ := L.ns
  obtain ⟨h1, h2⟩ := Bool.and_eq_true_iff.mp (show ((He.Fa.cls c).ok W.K && (He.Fa.glo c).ok W.K) = true from L.fact _ h)
  exact ⟨He.cls_ok h1, He.glo_ok X G h2⟩
theorem Low.free_ (L : Low fa cs W) {sc : Scp} {x : Str} (g : gOk sc x = true) (h : Fx.free x ∈ fa) : Free W sc x := ⟨(gOk_g g).1, L.free h⟩
theorem Low.tree (L : Low fa cs W) {x : Str} {d : D} (h : Fx.tree x d ∈ fa) : ∃ v u, W.mg x = some u ∧ RelV v u ∧ ∀ F, Rep W.K W.cA F v d := by
  obtain ⟨hp, X, G⟩ := L.ns
  have q : (match PySem.W.nsIn W.K mainGlobals x with
    | some (some v) => treeB W.K d v
    | _ => false) = true := L.fact _ h
  cases e : PySem.W.nsIn W.K mainGlobals x with
  | none => rw [e] at q; cases q
  | some o =>
    rw [e] at q
    cases o with
    | none => cases q
    | some u =>
      obtain ⟨v, r1, r2⟩ := treeB_ok (cA := W.cA) q
      exact ⟨v, u, PySem.W.mg_of X G e, r1, r2⟩
theorem Low.meth (L : Low fa cs W) {c m : Str} (h : Fx.meth c m ∈ fa) : Meth W.K (He.ga W.K c) m (He.ma W.K (He.ga W.K c) m) := He.meth_ok (L.fact _ h)
theorem Low.mkr (L : Low fa cs W) {c : Str} (h : Fx.mkr c ∈ fa) : Mk W.K (He.ga W.K c) (He.ma W.K (He.ga W.K c) "__init__") := He.mkr_ok (L.fact _ h)
/-- the tables that the facts give -/
def naT (fa : List Fx) (c f : Str) : Bool := fa.any fun x => match x with
  | .noat c' f' => decide (c = c') && decide (f = f')
  | _ => false
def ptT (fa : List Fx) (c : Str) : Bool := fa.any fun x => match x with
  | .notru c' => decide (c = c')
  | _ => false
def nfT (fa : List Fx) (c d : Str) : Bool := fa.any fun x => match x with
  | .nf c' d' => decide (c = c') && decide (d = d')
  | _ => false
def icT (fa : List Fx) (c : Str) : Bool := fa.any fun x => match x with
  | .isi c' => decide (c = c')
  | _ => false
def kitT (fa : List Fx) (t u : Ty) : Option Bool := fa.findSome? fun x => match x with
  | .kit t' u' b => if t = t' ∧ u = u' then some b else none
  | _ => none
theorem Low.na (L : Low fa cs W) : NaOk W (naT fa) := by
  intro c f C h hC
  obtain ⟨_, rfl⟩ := L.cls_ hC
  obtain ⟨x, hx, e⟩ := List.any_eq_true.mp h
  cases x with
  | noat c' f' =>
    simp only [Bool.and_eq_true, decide_eq_true_eq] at e
    obtain ⟨rfl, rfl⟩ := e
    exact He.noat_ok (L.fact _ hx)
  | _ => cases e
theorem Low.pt (L : Low fa cs W) : PlainTru W (ptT fa) := by
  intro c C h hC
  obtain ⟨_, rfl⟩ := L.cls_ hC
  obtain ⟨x, hx, e⟩ := List.any_eq_true.mp h
  cases x with
  | notru c' =>
    simp only [decide_eq_true_eq] at e
    subst e
    obtain ⟨h1, h2⟩ := Bool.and_eq_true_iff.mp (show (He.eqO (PySem.W.findIn W.K (.ref (He.ga W.K c)) "__bool__") (some none) && He.eqO (PySem.W.findIn W.K (.ref (He.ga W.K c)) "__len__") (some none)) = true from L.fact _ hx)
    exact ⟨He.eqO_ok h1, He.eqO_ok h2⟩
  | _ => cases e
theorem Low.nf (L : Low fa cs W) : NfOk W (nfT fa) := by
  intro c c' C C' h hC hC'
  obtain ⟨_, rfl⟩ := L.cls_ hC
  obtain ⟨_, rfl⟩ := L.cls_ hC'
  obtain ⟨x, hx, e⟩ := List.any_eq_true.mp h
  cases x with
  | nf c1 f1 =>
    simp only [Bool.and_eq_true, decide_eq_true_eq] at e
    obtain ⟨rfl, rfl⟩ := e
    exact L.fact _ hx
  | _ => cases e
theorem tyV_val {t : Ty} {v : V} {u : Value} (L : Low fa cs W) (h : TyV W t v u) : u = tyVal W.K t := by
  cases t with
  | bt n => exact h.2
  | cl c =>
    obtain ⟨C, hC, _, rfl⟩ := h
    obtain ⟨_, rfl⟩ := L.cls_ hC
    rfl
theorem Low.kit (L : Low fa cs W) : KitOk W (kitT fa) (icT fa) := by
  have key : ∀ c C, icT fa c = true → W.cA c = some C → (He.eqO (PySem.W.findIn W.K (.ref C) "__class__") (some (some (.builtin "object.__class__"))) && (He.eqO (PySem.W.specialIn W.K (.builtin "object.__class__") "__get__") (some (some (.builtin "getset_descriptor.__get__"))) &&
      (decide (PySem.W.takesIn W.K (.builtin "object.__class__") = some true) && decide (PySem.W.mroIn W.K C (.type "object") = some true)))) = true := fun c C h hC => by
    obtain ⟨_, rfl⟩ := L.cls_ hC
    obtain ⟨x, hx, e⟩ := List.any_eq_true.mp h
    cases x with
    | isi c' =>
      simp only [decide_eq_true_eq] at e
      subst e
      exact L.fact _ hx
    | _ => cases e
  refine ⟨fun t t' b v u v' u' h1 h2 h3 => ?_, fun c C h hC => ?_, fun c C h hC => ?_, fun c C h hC => ?_, fun c C h hC => ?_⟩
  · obtain ⟨x, hx, e⟩ := List.exists_of_findSome?_eq_some h1
    cases x with
    | kit t1 u1 b1 =>
      simp only at e
      split at e
      · rename_i hh
        obtain ⟨rfl, rfl⟩ := hh
        cases e
        rw [tyV_val L h2, tyV_val L h3]
        exact of_decide_eq_true (L.fact _ hx)
      · cases e
    | _ => cases e
  all_goals
    have q := key c C h hC
    simp only [Bool.and_eq_true, decide_eq_true_eq] at q
    obtain ⟨q1, q2, q3, q4⟩ := q
  · exact He.eqO_ok q1
  · exact He.eqO_ok q2
  · exact q3
  · exact q4
end
/-! ### the law -/
/-- the law's promise: handed a list of numbers it answers True -/
def spLaw (K : PySem.W.Frag) (n : Nat) : Sp := fun vs H Q _ => ∃ (a : Addr) (ns : List Int), vs = [.ref a] ∧ ns.length ≤ n ∧ SqL K H a (ns.map V.int) ∧ ∀ H', Q (.bl true) H'
theorem law_ok {W : Wd} {n k : Nat} {f : FSem} {fa : Addr} {fd : FuncData} {ps : List Str} (h : FnOk W.P W.w W.K W.mg W.base CX0 k fa fd ps (spG W f)) (hf : ∀ ns : List Int, ns.length ≤ n → f [.d (.scr ns)] [] = some (.d (.bl true), [])) : FnOk W.P W.w W.K W.mg W.base CX0 k fa fd ps (spLaw W.K n) := by
  refine h.imp fun vs H Q E hsp => ?_
  obtain ⟨a, ns, rfl, hl, hS, q⟩ := hsp
  refine ⟨H, [], [], [.d (.scr ns)], _, _, .cons (show Rep W.K W.cA H (.ref a) (.scr ns) from .scr hS) .nil, hf ns hl, ⟨(Sub.refl H).h, .nil, rfl, fun a h => by simp at h, fun k a c h => by simp at h⟩, fun F' κ' H' v x t r => ?_⟩
  have r : Rep W.K W.cA F' v (.bl true) := r
  cases r
  exact q H'
end G
/-! The rules as a printer of proofs names them. -/
namespace G
open PySem L2
def DW (W : Wd) (N : List Str) (sc : Scp) (e : Expr) (f : TF) : Prop := ∀ X, Gd W N sc X → PW X e (tTv W f)
section
variable {fa : List Fx} {cs : List Str} {W : Wd} {N : List Str} {sc : Scp} {a b c : Expr} {f1 f2 f3 : EF} {es : List Expr} {ga : AF} {pos p p2 : Pos} {x : Str} {i : Nat} {st : Stmt} {sts : List Stmt}
theorem t_w {e : Expr} {f : TF} (h : DW W N sc e f) : DT W N sc e f := fun X gd => (h X gd).pt
theorem w_a1 {f : TF} (h : DT W N sc a f) : DW W N sc (.BoolOp .And [a] pos) f := dw_and1 h
theorem w_o1 {f : TF} (h : DT W N sc a f) : DW W N sc (.BoolOp .Or [a] pos) f := dw_or1 h
theorem w_a {f g : TF} {rest : List Expr} (ha : DT W N sc a f) (hb : DW W N sc (.BoolOp .And (b :: rest) pos) g) : DW W N sc (.BoolOp .And (a :: b :: rest) pos) (tAnd_ f g) := dw_and ha hb
theorem w_o {f g : TF} {rest : List Expr} (ha : DT W N sc a f) (hb : DW W N sc (.BoolOp .Or (b :: rest) pos) g) : DW W N sc (.BoolOp .Or (a :: b :: rest) pos) (tOr_ f g) := dw_or ha hb
/-- a global that is data -/
theorem e_g {d : D} (L : Low fa cs W) (m : Fx.tree x d ∈ fa) (g : gOk sc x = true) : DE W N sc (.Name x pos) (eCst d) :=
  let ⟨v, u, h1, h2, h3⟩ := L.tree m
  de_glob (gOk_g g).1 h1 h2 h3 (gOk_g g).2.1
theorem e_bB {id : String} {g : List D → Option D} (hc : CallS (.builtin id) g) (hv : bootBuiltins x = some (.builtin id)) (L : Low fa cs W) (m : Fx.free x ∈ fa) (h : gOk sc x = true) (hst : notStar a = true) (hss : es.all notStar = true) (ha : DA W N sc (a :: es) ga) :
    DE W N sc (.Call (.Name x p) (a :: es) [] pos) (eCall g ga) := de_callB hc (L.free_ h m) hv hst hss ha (gOk_g h).2.2 (gOk_g h).2.1
theorem e_bT {T : String} {g : List D → Option D} (hc : CallS (.type T) g) (hv : bootBuiltins x = some (.type T)) (L : Low fa cs W) (m : Fx.free x ∈ fa) (h : gOk sc x = true) (hst : notStar a = true) (hss : es.all notStar = true) (ha : DA W N sc (a :: es) ga) :
    DE W N sc (.Call (.Name x p) (a :: es) [] pos) (eCall g ga) := de_callT hc (L.free_ h m) hv hst hss ha (gOk_g h).2.2 (gOk_g h).2.1
theorem f_bB {id : String} {g : List D → Option Cell} (hc : CallFS (.builtin id) g) (hv : bootBuiltins x = some (.builtin id)) (L : Low fa cs W) (m : Fx.free x ∈ fa) (h : gOk sc x = true) (hst : notStar a = true) (hss : es.all notStar = true) (ha : DA W N sc (a :: es) ga) :
    DF W N sc (.Call (.Name x p) (a :: es) [] pos) (cCall g ga) := df_callB hc (L.free_ h m) hv hst hss ha (gOk_g h).2.2 (gOk_g h).2.1
theorem f_bT {T : String} {g : List D → Option Cell} (hc : CallFS (.type T) g) (hv : bootBuiltins x = some (.type T)) (L : Low fa cs W) (m : Fx.free x ∈ fa) (h : gOk sc x = true) (hst : notStar a = true) (hss : es.all notStar = true) (ha : DA W N sc (a :: es) ga) :
    DF W N sc (.Call (.Name x p) (a :: es) [] pos) (cCall g ga) := df_callT hc (L.free_ h m) hv hst hss ha (gOk_g h).2.2 (gOk_g h).2.1
theorem e_f {f : FSem} (hf : FnHas W x f) (g : gOk sc x = true) (hst : notStar a = true) (hss : es.all notStar = true) (ha : DA W N sc (a :: es) ga) : DE W N sc (.Call (.Name x p) (a :: es) [] pos) (eFn f ga) :=
  de_fn hf (gOk_g g).1 hst hss ha (gOk_g g).2.1
theorem e_f0 {f : FSem} (hf : FnHas W x f) (g : gOk sc x = true) : DE W N sc (.Call (.Name x p) [] [] pos) (eFn f aNil) := de_fn0 hf (gOk_g g).1 (gOk_g g).2.1
theorem e_m {f : FSem} (hf : MkHas W x f) (g : gOk sc x = true) (hst : notStar a = true) (hss : es.all notStar = true) (ha : DA W N sc (a :: es) ga) : DE W N sc (.Call (.Name x p) (a :: es) [] pos) (eMake x f ga) :=
  de_make hf (gOk_g g).1 hst hss ha (gOk_g g).2.1
theorem e_m0 {f : FSem} (hf : MkHas W x f) (g : gOk sc x = true) : DE W N sc (.Call (.Name x p) [] [] pos) (eMake x f aNil) := de_make0 hf (gOk_g g).1 (gOk_g g).2.1
theorem ty_b {T : String} (hv : bootBuiltins x = some (.type T)) (L : Low fa cs W) (m : Fx.free x ∈ fa) (h : gOk sc x = true) : TyName W sc (.Name x p) (.bt T) := ⟨x, p, rfl, (gOk_g h).1, (gOk_g h).2.2, (gOk_g h).2.1, L.free m, hv⟩
theorem ty_c (L : Low fa cs W) (m : Fx.cls x ∈ fa) (h : gOk sc x = true) (hc : cs.contains x = true) : TyName W sc (.Name x p) (.cl x) := ⟨x, p, rfl, (gOk_g h).1, (gOk_g h).2.2, (gOk_g h).2.1, _, L.is_ hc, (L.cls m).2⟩
theorem e_isi {t : Ty} (L : Low fa cs W) (m : Fx.free "isinstance" ∈ fa) (g : gOk sc "isinstance" = true) (hst : notStar a = true) (ha : DE W N sc a f1) (hb : TyName W sc b t) : DE W N sc (.Call (.Name "isinstance" p) [a, b] [] pos) (eIsi (kitT fa) (icT fa) [t] f1) :=
  de_isi L.kit (L.free_ g m) hst ha hb
theorem e_isiT {ts : List Ty} {j : Nat} (L : Low fa cs W) (m : Fx.free "isinstance" ∈ fa) (g : gOk sc "isinstance" = true) (hst : notStar a = true) (ha : DE W N sc a f1) (hb : TyNames W sc es ts) (hl : ts.length < 100) : DE W N sc (.Call (.Name "isinstance" p) [a, .Tuple es j p2] [] pos) (eIsi (kitT fa) (icT fa) ts f1) :=
  de_isiT L.kit (L.free_ g m) hst ha hb hl
theorem i_r1 {tg : Expr} (L : Low fa cs W) (m : Fx.free "range" ∈ fa) (g : gOk sc "range" = true) (hst : notStar a = true) (ha : DE W N sc a f1) : DI W N sc tg (.Call (.Name "range" p) [a] [] pos) (iRange1 f1) := di_range1 (L.free_ g m) hst ha
theorem i_r2 {tg : Expr} (L : Low fa cs W) (m : Fx.free "range" ∈ fa) (g : gOk sc "range" = true) (hst : notStar a = true) (hst2 : notStar b = true) (ha : DE W N sc a f1) (hb : DE W N sc b f2) : DI W N sc tg (.Call (.Name "range" p) [a, b] [] pos) (iRange2 f1 f2) := di_range2 (L.free_ g m) hst hst2 ha hb
theorem i_en {tpos : Pos} {elts : List Expr} {kk : Nat} (L : Low fa cs W) (m : Fx.free "enumerate" ∈ fa) (g : gOk sc "enumerate" = true) (hst : notStar a = true) (ha : DE W N sc a f1) : DI W N sc (.Tuple elts kk tpos) (.Call (.Name "enumerate" p) [a] [] pos) (iEnum f1) := di_enum (L.free_ g m) hst ha
theorem i_z {tpos : Pos} {elts : List Expr} {kk : Nat} (L : Low fa cs W) (m : Fx.free "zip" ∈ fa) (g : gOk sc "zip" = true) (hst : notStar a = true) (hst2 : notStar b = true) (ha : DE W N sc a f1) (hb : DE W N sc b f2) : DI W N sc (.Tuple elts kk tpos) (.Call (.Name "zip" p) [a, b] [] pos) (iZip f1 f2) := di_zip (L.free_ g m) hst hst2 ha hb
theorem g_v (h : sOk N sc i x = true) : DG W N sc (.Name x pos) (gVar i) := dg_var (sOk_s h).1 (sOk_s h).2.1 (sOk_s h).2.2
theorem gc_v {vs : List Nat} (h : sOk N sc i x = true) (hv : i ∈ vs) : DGc W N sc vs (.Name x pos) (gVar i) := dgc_var (sOk_s h).1 (sOk_s h).2.1 (sOk_s h).2.2 hv
/-- x = e, e no comprehension -/
theorem s_v (h : sOk N sc i x = true) (hn : notComp b = true) (hb : DE W N sc b f2) : DS W N sc (.Assign [.Name x p] b pos) (sAsg f2 (gVar i)) := ds_asg rfl (.inr hn) (fun env _ => stores_noT rfl b env) (g_v h) hb
/-- x = [..], not on the swapped road -/
theorem ds_asgC {g : GF} (hs : notStar a = true) (hsw : pureOf (swapsWith b (some a) pos.line (envD sc.toScope)) = some false) (hst : ∀ env, env.scope = sc.toScope → swappedStores [a] b env = pure none) (hg : DG W N sc a g) (hb : DE W N sc b f2) : DS W N sc (.Assign [a] b pos) (sAsg f2 g) := by
  intro X gd
  refine PS.imp (ps_asg (hb X gd) (hg X gd) ?_ (hst X.env gd.eS) (assign_one hs _)) (tSv_asg (g := g))
  exact swaps_of hsw _ gd.eS
theorem s_vC (h : sOk N sc i x = true) (hsw : pureOf (swapsWith b (some (.Name x p)) pos.line (envD sc.toScope)) = some false) (hb : DE W N sc b f2) : DS W N sc (.Assign [.Name x p] b pos) (sAsg f2 (gVar i)) := ds_asgC rfl hsw (fun env _ => stores_noT rfl b env) (g_v h) hb
theorem s_lcT {elt tg iter : Expr} {ifs : List Expr} {scope : Scope} {own : List (Str × Nat)} {fi : IF} {g : GF} {cf : TF} {f : EF} {cpos : Pos} (h : lOk N sc i x = true)
    (hsw : pureOf (swapsWith (.ListComp elt [⟨tg, iter, ifs, 0⟩] scope cpos) (some (.Name x p)) pos.line (envD sc.toScope)) = some true)
    (ok : BlkOk N sc.toScope scope own) (hs : notSet iter = true) (hi : DI W N sc tg iter fi) (hg : DGc W N (blkS scope sc) (own.map (·.2)) tg g) (hc : DTs W N (blkS scope sc) ifs cf) (he : DE W N (blkS scope sc) elt f) :
    DS W N sc (.Assign [.Name x p] (.ListComp elt [⟨tg, iter, ifs, 0⟩] scope cpos) pos) (sAsg (eTree (cLc fi g cf f (own.map (·.2)))) (gVar i)) := (ds_lc (lOk_l h).1 (lOk_l h).2 hsw ok hs hi hg hc he).1
theorem s_lcL {elt tg iter : Expr} {ifs : List Expr} {scope : Scope} {own : List (Str × Nat)} {fi : IF} {g : GF} {cf : TF} {f : EF} {cpos : Pos} (h : lOk N sc i x = true)
    (hsw : pureOf (swapsWith (.ListComp elt [⟨tg, iter, ifs, 0⟩] scope cpos) (some (.Name x p)) pos.line (envD sc.toScope)) = some true)
    (ok : BlkOk N sc.toScope scope own) (hs : notSet iter = true) (hi : DI W N sc tg iter fi) (hg : DGc W N (blkS scope sc) (own.map (·.2)) tg g) (hc : DTs W N (blkS scope sc) ifs cf) (he : DE W N (blkS scope sc) elt f) :
    DS W N sc (.Assign [.Name x p] (.ListComp elt [⟨tg, iter, ifs, 0⟩] scope cpos) pos) (sAsg (eLive (cLc fi g cf f (own.map (·.2)))) (gVar i)) := (ds_lc (lOk_l h).1 (lOk_l h).2 hsw ok hs hi hg hc he).2
/-- other targets -/
theorem s_t {g : GF} (hs : notStar a = true) (hn : notName a = true) (hst : pureOf (swappedStores [a] b (envD sc.toScope)) = some none) (hg : DG W N sc a g) (hb : DE W N sc b f2) : DS W N sc (.Assign [a] b pos) (sAsg f2 g) := ds_asg hs (.inl hn) (stores_of hst) hg hb
theorem s_p2 {j k k2 : Nat} {y : Str} {px py pt pt2 : Pos} (h1 : lOk N sc i x = true) (h2 : lOk N sc j y = true) (hij : i ≠ j) (hw : pureOf (swappedStores [.Tuple [.Name x px, .Name y py] k pt] (.Tuple [a, b] k2 pt2) (envD sc.toScope)) = some (some [x, y])) (hga : DA W N sc [a, b] ga) :
    DS W N sc (.Assign [.Tuple [.Name x px, .Name y py] k pt] (.Tuple [a, b] k2 pt2) pos) (sPar i j ga) := ds_par (lOk_l h1).1 (lOk_l h2).1 hij (lOk_l h1).2 (lOk_l h2).2 hga hw
theorem s_p3 {j l k k2 : Nat} {y z : Str} {px py pz pt pt2 : Pos} (h1 : lOk N sc i x = true) (h2 : lOk N sc j y = true) (h3 : lOk N sc l z = true) (hij : i ≠ j) (hil : i ≠ l) (hjl : j ≠ l)
    (hw : pureOf (swappedStores [.Tuple [.Name x px, .Name y py, .Name z pz] k pt] (.Tuple [a, b, c] k2 pt2) (envD sc.toScope)) = some (some [x, y, z])) (hga : DA W N sc [a, b, c] ga) :
    DS W N sc (.Assign [.Tuple [.Name x px, .Name y py, .Name z pz] k pt] (.Tuple [a, b, c] k2 pt2) pos) (sPar3 i j l ga) := ds_par3 (lOk_l h1).1 (lOk_l h2).1 (lOk_l h3).1 hij hil hjl (lOk_l h1).2 (lOk_l h2).2 (lOk_l h3).2 hga hw
/-- x += .. -/
theorem s_aA (h : sOk N sc i x = true) (hb : DE W N sc b f2) : DS W N sc (.AugAssign (.Name x p) .Add b pos) (sAugAny i gIadd f2) := ds_aug (sOk_s h).1 (sOk_s h).2.1 (sOk_s h).2.2 ops_iadd rfl hb
theorem s_aN {op : Operator} {g : D → D → Option D} (ho : OpS (inplaceOp op) g) (h : sOk N sc i x = true) (hb : DE W N sc b f2) : DS W N sc (.AugAssign (.Name x p) op b pos) (sAug i g f2) := ds_augN (sOk_s h).1 (sOk_s h).2.1 (sOk_s h).2.2 ho hb
end
/-! ### C() where there is no __init__ but object's -/
def eNew0 (x : Str) : EF := fun _ M => some (.hd M.length, M ++ [.obj x []])
theorem run_make0 {X : Cx} {C : Addr} {pins : List (Addr × Obj)} {σ : L2.St} {H : Hp} {s : Shared} {Q : VK} (hm : PySem.W.makesIn X.K C = true) (hi : PySem.W.findIn X.K (.ref C) "__init__" = some (some (.builtin "object.__init__"))) (I : Inv X pins σ H s)
    (h : ∀ x dx, H x = none → H dx = none → dx ≠ x → Q (.ref x) (upd (upd H dx (.own x)) x (.ins C dx []))) : wpAny (model X.prog X.w) X.A (call (.ref C) []) (EP X pins σ Q) X.xe s := by
  have hq := h (s.heap.objs.size + 1) s.heap.objs.size (I.hok.fresh (Nat.le_succ _)) (I.hok.fresh (Nat.le_refl _)) (Nat.ne_of_lt (Nat.lt_succ_self _))
  have I2 := Inv.made (C := C) I
  have Y := PySem.W.makes_of (M := model X.prog X.w) I.kIn hm
  refine wpAny_call (make_map0 I.kIn hm hi (fun self => PySem.W.Looks.of_pure (PySem.W.oi_bind self)) ?_)
  obtain ⟨hh, g, d, t, os⟩ := s
  have hx : ((hh.push PySem.W.emptyDict).push (PySem.W.instObj C hh.objs.size)).get? (hh.objs.size + 1) = some (PySem.W.instObj C hh.objs.size) := by
    have := Heap.get?_push_size (hh.push PySem.W.emptyDict) (o := PySem.W.instObj C hh.objs.size) rfl
    rwa [Heap.size_push] at this
  have t1 : PySem.W.Looks (model X.prog X.w) ((hh.push PySem.W.emptyDict).push (PySem.W.instObj C hh.objs.size)) (typeOf (.ref (hh.objs.size + 1))) (.ref C) := (PySem.W.Looks.ld hx).andThen .now
  have t2 : PySem.W.Looks (model X.prog X.w) ((hh.push PySem.W.emptyDict).push (PySem.W.instObj C hh.objs.size)) (isInstance (.ref (hh.objs.size + 1)) (.type "object")) true := t1.andThen (Y.top.keeps fun b o e => Heap.get?_push_of_some _ (Heap.get?_push_of_some _ e))
  refine codeAny_call_builtin PySem.W.oi_plain PySem.W.entry_oi (@PySem.W.check_slot (model X.prog X.w) _ _ _ "object.__init__" "object" "__init__" (.ref (hh.objs.size + 1)) [] [] _ PySem.W.oi_kind PySem.W.oi_split t2 (PySem.W.oi_args (.ref (hh.objs.size + 1))) ?_)
  rw [PySem.W.oi_run]
  exact wpAny_pure (And.intro rfl ⟨.ref (hh.objs.size + 1), _, I2, rfl, hq⟩)
theorem e_n0 {fa : List Fx} {cs : List Str} {W : Wd} {N : List Str} {sc : Scp} {pos p : Pos} {x : Str} (L : Low fa cs W) (m : Fx.mk0 x ∈ fa) (m2 : Fx.cls x ∈ fa) (g : gOk sc x = true) (hc : cs.contains x = true) : DE W N sc (.Call (.Name x p) [] [] pos) (eNew0 x) := by
  intro X gd
  obtain ⟨q1, q2⟩ := Bool.and_eq_true_iff.mp (show (PySem.W.makesIn W.K (He.ga W.K x) && (He.eqO (PySem.W.findIn W.K (.ref (He.ga W.K x)) "__init__") (some (some (.builtin "object.__init__"))) && PySem.W.keepIn W.K (.ref (He.ga W.K x)))) = true from L.fact _ m)
  obtain ⟨q2, q3⟩ := Bool.and_eq_true_iff.mp q2
  refine ⟨fun pins s σ H Q I h => ?_⟩
  obtain ⟨env, M, s', M', F, κ, e, t, er, k⟩ := h
  simp only [eNew0, Option.some.injEq, Prod.mk.injEq] at e
  obtain ⟨rfl, rfl⟩ := e
  refine wpAny_Call_Name_kw (ld_glob I (gd.gl (gOk_g g).1) (by rw [gd.mg]; exact (L.cls m2).2) ?_ (gOk_g g).2.1)
  refine PySem.W.callWith_K0 (first := []) I.kIn (by rw [gd.K]; exact q3) ?_
  refine run_make0 (by rw [gd.K]; exact q1) (by rw [gd.K]; exact He.eqO_ok q2) I fun y dx hy hdx hne => ?_
  have n : New F H F (upd (upd H dx (.own y)) y (.ins (He.ga W.K x) dx [])) := (New.oneH t.sub hdx).trans (New.oneH (t.sub.transS (Sub.upd hdx)) (by rw [upd_ne hne.symm]; exact hy))
  have t2 : Stt W.K W.cA F _ (κ ++ [y]) (M ++ [.obj x []]) := t.push hy n (c := .obj x []) ⟨t.sub.none hy, _, dx, [], L.is_ hc, upd_same, rfl, .nil, by simp⟩ (fun d z => by cases z)
  exact k F (κ ++ [y]) _ _ ⟨.refl _, [y], rfl⟩ t2 ⟨y, by rw [← t.len]; simp, rfl⟩
end G
/-! Joining. -/
namespace G
open PySem L2
def clsT (fa : List Fx) (c : Str) : Bool := fa.any fun x => match x with
  | .cls c' => decide (c = c')
  | _ => false
theorem cls_all {fa : List Fx} {fn : List He.DefD} {cs : List Str} {K : PySem.W.Frag} (c : SaysX fa fn K) (h : cs.all (clsT fa) = true) : ∀ x C, cAof K cs x = some C → Cls K C := fun x C e => by
  unfold cAof at e
  split at e
  rotate_left
  · cases e
  rename_i hx
  cases e
  have h1 := List.all_eq_true.mp h x (by simpa using hx)
  obtain ⟨f, hf, q⟩ := List.any_eq_true.mp h1
  cases f with
  | cls c' =>
    simp only [decide_eq_true_eq] at q
    subst q
    exact He.cls_ok (Bool.and_eq_true_iff.mp (show ((He.Fa.cls x).ok K && (He.Fa.glo x).ok K) = true from c.fact hf)).1
  | _ => cases q
/-- the place of the walk -/
def mkW {fa : List Fx} {fn : List He.DefD} {cs : List Str} {K : PySem.W.Frag} (c : SaysX fa fn K) (h : cs.all (clsT fa) = true) (P : Program) (w : World) (mg : Str → Option Value) (base : Heap) : Wd := ⟨P, w, K, mg, base, cAof K cs, 0, cls_all c h⟩
theorem mkW_low {fa : List Fx} {fn : List He.DefD} {cs : List Str} {K : PySem.W.Frag} (c : SaysX fa fn K) (h : cs.all (clsT fa) = true) (P : Program) (w : World) {mg : Str → Option Value} {hp : Heap} (base : Heap) (X : K.In hp) (G : hp.Ns mainGlobals mg) : Low fa cs (mkW c h P w mg base) :=
  ⟨fun f hf => c.fact hf, rfl, hp, X, G⟩
end G
/-! Plain reckoning: each meaning unfolded, for simp. -/
namespace G
open PySem L2
section
variable {env : Ev} {M : Ms} {fa fb fc : EF} {ga : AF} {f g : SF} {c t u : TF}
@[simp] theorem r_eVar (i : Nat) : eVar i env M = match env[i]? with
  | some (some s) => some (s, M)
  | _ => none := id rfl
@[simp] theorem r_eCst (d : D) : eCst d env M = some (.d d, M) := id rfl
@[simp] theorem r_eBin (g : D → D → Option D) : eBin g fa fb env M = match fa env M with
  | some (a, M1) => match fb env M1 with
    | some (b, M2) => match view M2 a with
      | some x => match view M2 b with
        | some y => match g x y with
          | some r => some (.d r, M2)
          | none => none
        | none => none
      | none => none
    | none => none
  | none => none := id rfl
@[simp] theorem r_eUn (g : D → Option D) : eUn g fa env M = match fa env M with
  | some (a, M1) => match view M1 a with
    | some x => match g x with
      | some r => some (.d r, M1)
      | none => none
    | none => none
  | none => none := id rfl
@[simp] theorem r_eCall (g : List D → Option D) : eCall g ga env M = match ga env M with
  | some (ss, M1) => match views M1 ss with
    | some xs => match g xs with
      | some r => some (.d r, M1)
      | none => none
    | none => none
  | none => none := id rfl
@[simp] theorem r_cCall (g : List D → Option Cell) : cCall g ga env M = match ga env M with
  | some (ss, M1) => match views M1 ss with
    | some xs => match g xs with
      | some r => some (r, M1)
      | none => none
    | none => none
  | none => none := id rfl
@[simp] theorem r_eTest : eTest fa env M = match fa env M with
  | some (.d (.bl b), M1) => some (b, M1)
  | _ => none := id rfl
@[simp] theorem r_tAnd : tAnd_ t u env M = match t env M with
  | some (true, M1) => u env M1
  | r => r := id rfl
@[simp] theorem r_tOr : tOr_ t u env M = match t env M with
  | some (false, M1) => u env M1
  | r => r := id rfl
@[simp] theorem r_tNot : tNot_ t env M = match t env M with
  | some (b, M1) => some (!b, M1)
  | none => none := id rfl
@[simp] theorem r_eOf : eOf t env M = match t env M with
  | some (b, M1) => some (.d (.bl b), M1)
  | none => none := id rfl
@[simp] theorem r_eAnd : eAnd fa fb env M = match fa env M with
  | some (.d (.bl true), M1) => fb env M1
  | some (.d (.bl false), M1) => some (.d (.bl false), M1)
  | _ => none := id rfl
@[simp] theorem r_eOr : eOr fa fb env M = match fa env M with
  | some (.d (.bl true), M1) => some (.d (.bl true), M1)
  | some (.d (.bl false), M1) => fb env M1
  | _ => none := id rfl
@[simp] theorem r_eIf : eIf c fa fb env M = match c env M with
  | some (true, M1) => fa env M1
  | some (false, M1) => fb env M1
  | none => none := id rfl
@[simp] theorem r_aNil : aNil env M = some ([], M) := id rfl
@[simp] theorem r_aCons : aCons fa ga env M = match fa env M with
  | some (s, M1) => match ga env M1 with
    | some (ss, M2) => some (s :: ss, M2)
    | none => none
  | none => none := id rfl
@[simp] theorem r_aStar : aStar fa ga env M = match fa env M with
  | some (s, M1) => match view M1 s with
    | some d => match itemsOf d with
      | some xs => match ga env M1 with
        | some (ss, M2) => some (xs.map S.d ++ ss, M2)
        | none => none
      | none => none
    | none => none
  | none => none := id rfl
@[simp] theorem r_eTup : eTup ga env M = match ga env M with
  | some (ss, M1) => match frzL ss M1 with
    | some (ds, M2) => if ds.length ≤ sizeLine then some (.d (.tup ds), M2) else none
    | none => none
  | none => none := id rfl
@[simp] theorem r_eLst : eLst ga env M = match ga env M with
  | some (ss, M1) => match frzL ss M1 with
    | some (ds, M2) => if ds.length ≤ sizeLine then some (.d (.lst ds), M2) else none
    | none => none
  | none => none := id rfl
@[simp] theorem r_cLst : cLst ga env M = match ga env M with
  | some (ss, M1) => match frzL ss M1 with
    | some (ds, M2) => if ds.length ≤ sizeLine then some (.lst ds, M2) else none
    | none => none
  | none => none := id rfl
@[simp] theorem r_eAttr (x : Str) : eAttr x fa env M = match fa env M with
  | some (s, M1) => match view M1 s with
    | some (.obj _ gs) => match gs.lookup x with
      | some d => some (.d d, M1)
      | none => none
    | _ => none
  | none => none := id rfl
@[simp] theorem r_oNone : oNone env M = some (none, M) := id rfl
@[simp] theorem r_oSome : oSome fa env M = match fa env M with
  | some (s, M1) => match view M1 s with
    | some (.int i) => some (some i, M1)
    | _ => none
  | none => none := id rfl
@[simp] theorem r_eSlice (fl fh : OF) : eSlice fa fl fh env M = match fa env M with
  | some (s, M1) => match fl env M1 with
    | some (lo, M2) => match fh env M2 with
      | some (hi, M3) => match view M3 s with
        | some d => match dSlice d lo hi with
          | some r => some (.d r, M3)
          | none => none
        | none => none
      | none => none
    | none => none
  | none => none := id rfl
@[simp] theorem r_eFn (F : FSem) : eFn F ga env M = match ga env M with
  | some (ss, M1) => F ss M1
  | none => none := id rfl
@[simp] theorem r_eMake (x : Str) (F : FSem) : eMake x F ga env M = match ga env M with
  | some (ss, M1) => match F (.hd M1.length :: ss) (M1 ++ [.obj x []]) with
    | some (.d .non, M2) => some (.hd M1.length, M2)
    | _ => none
  | none => none := id rfl
@[simp] theorem r_eNew0 (x : Str) : eNew0 x env M = some (.hd M.length, M ++ [.obj x []]) := id rfl
@[simp] theorem r_eDrop : eDrop fa env M = match fa env M with
  | some (s, M1) => match frz M1 s with
    | some (d, M2) => if M.length ≤ M2.length then some (.d d, M2.take M.length) else none
    | none => none
  | none => none := id rfl
@[simp] theorem r_eMeth (mt : Str → Option FSem) (m : Str) : eMeth mt m fa ga env M = match fa env M with
  | some (s, M1) => match view M1 s with
    | some (.obj c gs) => match mt c with
      | some F => match gs.lookup m with
        | some _ => none
        | none => match ga env M1 with
          | some (ss, M2) => F (s :: ss) M2
          | none => none
      | none => none
    | _ => none
  | none => none := id rfl
@[simp] theorem r_sNext : sNext env M = some (.nx env M) := id rfl
@[simp] theorem r_sSeq : sSeq f g env M = match f env M with
  | some (.nx e1 M1) => g e1 M1
  | r => r := id rfl
@[simp] theorem r_sExpr : sExpr fa env M = match fa env M with
  | some (_, M1) => some (.nx env M1)
  | none => none := id rfl
@[simp] theorem r_sRet : sRet fa env M = match fa env M with
  | some (s, M1) => some (.rt s M1)
  | none => none := id rfl
@[simp] theorem r_sRetN : sRetN env M = some (.rt (.d .non) M) := id rfl
@[simp] theorem r_sIf : sIf c f g env M = match c env M with
  | some (true, M1) => f env M1
  | some (false, M1) => g env M1
  | none => none := id rfl
@[simp] theorem r_sBrk : sBrk env M = some (.bk env M) := id rfl
@[simp] theorem r_sCt : sCt env M = some (.ct env M) := id rfl
@[simp] theorem r_sNever : sNever env M = none := id rfl
@[simp] theorem r_gVar (i : Nat) (s : S) : gVar i s env M = if i < env.length then some (env.set i (some s), M) else none := id rfl
@[simp] theorem r_gsNil : gsNil [] env M = some (env, M) := id rfl
@[simp] theorem r_gsCons (F : GF) (Gs : GFs) (d : D) (ds : List D) : gsCons F Gs (d :: ds) env M = match F (.d d) env M with
  | some (e1, M1) => Gs ds e1 M1
  | none => none := id rfl
@[simp] theorem r_eTree (F : CF) : eTree F env M = match F env M with
  | some (c, M') => some (.d c.toD, M')
  | none => none := id rfl
@[simp] theorem r_eLive (F : CF) : eLive F env M = match F env M with
  | some (c, M') => some (.hd M'.length, M' ++ [c])
  | none => none := id rfl
@[simp] theorem r_cDct0 : cDct0 env M = some (.dct [], M) := id rfl
@[simp] theorem r_sAsg (F : GF) : sAsg fa F env M = match fa env M with
  | some (s, M1) => match F s env M1 with
    | some (e, M2) => some (.nx e M2)
    | none => none
  | none => none := id rfl
@[simp] theorem r_sPar (i j : Nat) : sPar i j ga env M = match ga env M with
  | some ([s, s'], M1) => if i < env.length ∧ j < env.length then some (.nx ((env.set i (some s)).set j (some s')) M1) else none
  | _ => none := id rfl
@[simp] theorem r_sPar3 (i j l : Nat) : sPar3 i j l ga env M = match ga env M with
  | some ([s, s', s''], M1) => if i < env.length ∧ j < env.length ∧ l < env.length then some (.nx (((env.set i (some s)).set j (some s')).set l (some s'')) M1) else none
  | _ => none := id rfl
@[simp] theorem r_sFor (fi : IF) (F : GF) : sFor fi F f env M = match fi env M with
  | some (ds, M1) => forD F f ds env M1
  | none => none := id rfl
@[simp] theorem r_tTrue : tTrue env M = some (true, M) := id rfl
@[simp] theorem r_iSeq : iSeq fa env M = match fa env M with
  | some (s, M1) => match frz M1 s with
    | some (d, M2) => match walkOf d with
      | some ds => some (ds, M2)
      | none => none
    | none => none
  | none => none := id rfl
@[simp] theorem r_iRange1 : iRange1 fa env M = match fa env M with
  | some (s, M1) => match view M1 s with
    | some (.int n) => if -(2 ^ 62) ≤ n ∧ n < 2 ^ 62 then some (rangeD 0 n.toNat, M1) else none
    | _ => none
  | none => none := id rfl
@[simp] theorem r_iRange2 : iRange2 fa fb env M = match fa env M with
  | some (s, M1) => match fb env M1 with
    | some (s', M2) => match view M2 s with
      | some (.int i) => match view M2 s' with
        | some (.int j) => if -(2 ^ 62) ≤ i ∧ i < 2 ^ 62 ∧ -(2 ^ 62) ≤ j ∧ j < 2 ^ 62 then some (rangeD i (j - i).toNat, M2) else none
        | _ => none
      | _ => none
    | none => none
  | none => none := id rfl
@[simp] theorem r_iEnum : iEnum fa env M = match fa env M with
  | some (s, M1) => match frz M1 s with
    | some (.lst ds, M2) => some (enumD ds, M2)
    | _ => none
  | none => none := id rfl
@[simp] theorem r_view_d (x : D) : view M (.d x) = some x := id rfl
@[simp] theorem r_view_h (k : Nat) : view M (.hd k) = M[k]?.map Cell.toD := id rfl
@[simp] theorem r_frz_d (x : D) : frz M (.d x) = some (x, M) := id rfl
@[simp] theorem r_frzL_nil : frzL [] M = some ([], M) := id rfl
@[simp] theorem r_frzL_cons (s : S) (r : List S) : frzL (s :: r) M = match frz M s with
    | some (d, M1) => match frzL r M1 with
      | some (ds, M2) => some (d :: ds, M2)
      | none => none
    | none => none := id rfl
@[simp] theorem r_frzL_map : ∀ (ds : List D), frzL (ds.map S.d) M = some (ds, M)
  | [] => rfl
  | d :: ds => by rw [List.map_cons, r_frzL_cons, r_frz_d]; simp only [r_frzL_map ds]
@[simp] theorem r_views_nil : views M [] = some [] := id rfl
@[simp] theorem r_views_cons (s : S) (r : List S) : views M (s :: r) = match view M s with
    | some d => match views M r with
      | some ds => some (d :: ds)
      | none => none
    | none => none := id rfl
@[simp] theorem r_fnD (np nN : Nat) (body : SF) (ss : List S) : fnD np nN body ss M = if ss.length = np then match body (env0 nN ss) M with
    | some (.rt s M1) => match frz M1 s with
      | some (d, M2) => if M.length ≤ M2.length then some (.d d, M2.take M.length) else none
      | none => none
    | some (.nx _ M1) => if M.length ≤ M1.length then some (.d .non, M1.take M.length) else none
    | _ => none
  else none := id rfl
@[simp] theorem r_env0 (nN : Nat) (ss : List S) : env0 nN ss = ss.map some ++ List.replicate (nN - ss.length) none := id rfl
@[simp] theorem r_gTupD (n : Nat) (Gs : GFs) (s : S) : gTupD n Gs s env M = match view M s with
  | some (.tup ds) => if ds.length = n then Gs ds env M else none
  | _ => none := by
  unfold gTupD
  rfl
@[simp] theorem r_eIsi (kit : Ty → Ty → Option Bool) (ic : Str → Bool) (ts : List Ty) : eIsi kit ic ts fa env M = match fa env M with
  | some (s, M1) => match view M1 s with
    | some d => match isiD kit ic d ts with
      | some b => some (.d (.bl b), M1)
      | none => none
    | none => none
  | none => none := id rfl
@[simp] theorem r_eTru (mt : Str → Option FSem) (pt : Str → Bool) : eTru mt pt fa env M = match fa env M with
  | some (s, M1) => truS mt pt s M1
  | none => none := id rfl
@[simp] theorem r_truS_bl (mt : Str → Option FSem) (pt : Str → Bool) (b : Bool) : truS mt pt (.d (.bl b)) M = some (b, M) := id rfl
@[simp] theorem r_truS_int (mt : Str → Option FSem) (pt : Str → Bool) (b : Int) : truS mt pt (.d (.int b)) M = some (b != 0, M) := id rfl
@[simp] theorem r_truS_obj (mt : Str → Option FSem) (pt : Str → Bool) (c : Str) (gs : List (Str × D)) : truS mt pt (.d (.obj c gs)) M = match mt c with
    | some F => match F [.d (.obj c gs)] M with
      | some (.d (.bl b), M2) => some (b, M2)
      | _ => none
    | none => if pt c then some (true, M) else none := id rfl
@[simp] theorem r_eNotT (mt : Str → Option FSem) (pt : Str → Bool) : eNotT mt pt fa = eOf (tNot_ (eTru mt pt fa)) := id rfl
@[simp] theorem r_isiD (kit : Ty → Ty → Option Bool) (ic : Str → Bool) (d : D) (ts : List Ty) : isiD kit ic d ts = if icD ic d then kitAll kit (tyD d) ts else none := id rfl
@[simp] theorem r_kitN (kit : Ty → Ty → Option Bool) (t : Ty) : kitAll kit t [] = some false := id rfl
@[simp] theorem r_kitC (kit : Ty → Ty → Option Bool) (t u : Ty) (ts : List Ty) : kitAll kit t (u :: ts) = match kit t u with
    | some true => some true
    | some false => kitAll kit t ts
    | none => none := id rfl
@[simp] theorem r_gI (g : Int → Int → D) (i j : Int) : gI g (.int i) (.int j) = some (g i j) := id rfl
@[simp] theorem r_gAdd (i j : Int) : gAdd (.int i) (.int j) = some (.int (i + j)) := id rfl
@[simp] theorem r_gMul (i j : Int) : gMul (.int i) (.int j) = if mulOk i j then some (.int (i * j)) else none := id rfl
@[simp] theorem r_gDiv (i j : Int) : gDiv (.int i) (.int j) = if 0 < j ∧ j < 1073741824 then some (.int (i / j)) else none := id rfl
@[simp] theorem r_gMod (i j : Int) : gMod (.int i) (.int j) = if 0 < j then some (.int (i % j)) else none := id rfl
@[simp] theorem r_gPow (i j : Int) : gPow (.int i) (.int j) = if 0 ≤ j ∧ j ≤ 1000000 ∧ i.natAbs < 2 ^ 64 then some (.int (i ^ j.toNat)) else none := id rfl
@[simp] theorem r_gNeg (i : Int) : gNeg (.int i) = some (.int (-i)) := id rfl
@[simp] theorem r_gInt (i : Int) : gInt [.int i] = some (.int i) := id rfl
@[simp] theorem r_gTup1 (ds : List D) : gTuple [.tup ds] = some (.tup ds) := id rfl
@[simp] theorem r_gTup2 (ds : List D) : gTuple [.lst ds] = some (.tup ds) := id rfl
@[simp] theorem r_gLen1 (ds : List D) : gLen [.tup ds] = some (.int ds.length) := id rfl
@[simp] theorem r_gLen2 (ds : List D) : gLen [.lst ds] = some (.int ds.length) := id rfl
@[simp] theorem r_gLen3 (ds : List Int) : gLen [.scr ds] = some (.int ds.length) := id rfl
@[simp] theorem r_gMax2 (i j : Int) : gMax [.int i, .int j] = some (.int (if j > i then j else i)) := id rfl
@[simp] theorem r_gMin2 (i j : Int) : gMin [.int i, .int j] = some (.int (if j < i then j else i)) := id rfl
@[simp] theorem r_gEqI (i j : Int) : gEq (.int i) (.int j) = some (.bl (decide (i = j))) := id rfl
@[simp] theorem r_gNeI (i j : Int) : gNe (.int i) (.int j) = some (.bl (!decide (i = j))) := id rfl
@[simp] theorem r_gEqS (i j : Str) : gEq (.str i) (.str j) = some (.bl (decide (i = j))) := id rfl
@[simp] theorem r_gNeS (i j : Str) : gNe (.str i) (.str j) = some (.bl (!decide (i = j))) := id rfl
@[simp] theorem r_gIs (x : D) : gIs x .non = some (.bl (isN x)) := id rfl
@[simp] theorem r_gIsNot (x : D) : gIsNot x .non = some (.bl (!isN x)) := id rfl
@[simp] theorem r_idxT (ds : List D) (i : Int) : dIdx (.tup ds) (.int i) = atI ds i := id rfl
@[simp] theorem r_idxL (ds : List D) (i : Int) : dIdx (.lst ds) (.int i) = atI ds i := id rfl
end
theorem mulOk_l {i j : Int} (h1 : -(2 ^ 64) < i) (h2 : i < 2 ^ 64) : mulOk i j = true := by unfold mulOk; simp; omega
theorem mulOk_r {i j : Int} (h1 : -(2 ^ 64) < j) (h2 : j < 2 ^ 64) : mulOk i j = true := by unfold mulOk; simp; omega
/-- a chain of two tests on numbers -/
theorem r_chainI {env : Ev} {M : Ms} {fa fb fc : EF} {g g' : Int → Int → Bool} {a b c : Int} (ha : fa env M = some (.d (.int a), M)) (hb : fb env M = some (.d (.int b), M)) (hc : fc env M = some (.d (.int c), M)) :
    eChain (gI fun i j => .bl (g i j)) (gI fun i j => .bl (g' i j)) fa fb fc env M = some (.d (.bl (g a b && g' b c)), M) := by
  unfold eChain
  simp only [ha, hb, r_view_d, r_gI]
  cases g a b <;> simp [hc]
/-- comprehensions: one turn by one -/
theorem lcD_eq {g : GF} {c : TF} {f : EF} {vs : List Nat} {env : Ev} {M : Ms} (p : D → Bool) (h : D → D) : ∀ (ds acc : List D), (∀ d ∈ ds, ∀ acc : List D, ∃ e1, g (.d d) (wipeE env vs) (M ++ [.lst acc]) = some (e1, M ++ [.lst acc]) ∧ c e1 (M ++ [.lst acc]) = some (p d, M ++ [.lst acc]) ∧ (p d = true → f e1 (M ++ [.lst acc]) = some (.d (h d), M ++ [.lst acc]))) →
    acc.length + ds.length ≤ sizeLine → lcD g c f vs M.length ds env (M ++ [.lst acc]) = some (M ++ [.lst (acc ++ (ds.filter p).map h)])
  | [], acc, _, _ => by simp [lcD]
  | d :: ds, acc, hs, hl => by
    obtain ⟨e1, h1, h2, h3⟩ := hs d (by simp) acc
    unfold lcD
    simp only [h1, h2]
    have hl' : acc.length + (ds.length + 1) ≤ sizeLine := hl
    cases hp : p d with
    | false =>
      simp only [List.filter_cons, hp]
      exact lcD_eq p h ds acc (fun x hx => hs x (List.mem_cons_of_mem _ hx)) (by omega)
    | true =>
      have ih := lcD_eq p h ds (acc ++ [h d]) (fun x hx => hs x (List.mem_cons_of_mem _ hx)) (by simp; omega)
      simp only [h3 hp, r_frz_d, List.getElem?_append_right (Nat.le_refl _), Nat.sub_self, List.getElem?_cons_zero, List.filter_cons, hp, if_true, List.map_cons]
      rw [if_pos (by omega), List.set_append_right _ _ (Nat.le_refl _), Nat.sub_self, List.set_cons_zero, ih]
      simp
theorem cLc_eq {fi : IF} {g : GF} {c : TF} {f : EF} {vs : List Nat} {env : Ev} {M M1 : Ms} {ds : List D} (p : D → Bool) (h : D → D) (hi : fi env M = some (ds, M1)) (hs : ∀ d ∈ ds, ∀ acc : List D, ∃ e1, g (.d d) (wipeE env vs) (M1 ++ [.lst acc]) = some (e1, M1 ++ [.lst acc]) ∧ c e1 (M1 ++ [.lst acc]) = some (p d, M1 ++ [.lst acc]) ∧ (p d = true → f e1 (M1 ++ [.lst acc]) = some (.d (h d), M1 ++ [.lst acc])))
    (hl : ds.length ≤ sizeLine) : cLc fi g c f vs env M = some (.lst ((ds.filter p).map h), M1) := by
  unfold cLc
  simp only [hi]
  rw [lcD_eq p h ds [] hs (by simpa using hl)]
  simp
/-- for: a state that goes on -/
theorem forD_inv {g : GF} {body : SF} {σ : Type} (P : σ → Ev → Ms → Prop) (step : σ → D → σ) : ∀ (ds : List D) (x : σ) (env : Ev) (M : Ms), P x env M → (∀ x env M d, d ∈ ds → P x env M → ∃ e1 M1 e2 M2, g (.d d) env M = some (e1, M1) ∧ (body e1 M1 = some (.nx e2 M2) ∨ body e1 M1 = some (.ct e2 M2)) ∧ P (step x d) e2 M2) →
    ∃ e2 M2, forD g body ds env M = some (.nx e2 M2) ∧ P (ds.foldl step x) e2 M2
  | [], x, env, M, h, _ => ⟨env, M, rfl, h⟩
  | d :: ds, x, env, M, h, hs => by
    obtain ⟨e1, M1, e2, M2, h1, h2, h3⟩ := hs x env M d (by simp) h
    obtain ⟨e3, M3, k1, k2⟩ := forD_inv P step ds (step x d) e2 M2 h3 fun x env M d hd => hs x env M d (List.mem_cons_of_mem _ hd)
    refine ⟨e3, M3, ?_, k2⟩
    unfold forD
    rcases h2 with h2 | h2 <;> simp only [h1, h2, k1]
end G
/-! Loops and draws, for plain reckoning. -/
namespace G
open PySem L2
theorem rangeD_zero (lo : Int) : rangeD lo 0 = [] := rfl
theorem rangeD_succ (lo : Int) (n : Nat) : rangeD lo (n + 1) = rangeD lo n ++ [.int (lo + n)] := by
  unfold rangeD
  rw [List.range_succ, List.map_append]
  rfl
theorem rangeD_get {lo : Int} {n i : Nat} (h : i < n) : (rangeD lo n)[i]? = some (.int (lo + i)) := by
  unfold rangeD
  rw [List.getElem?_map, List.getElem?_range h]
  rfl
/-- a loop: P i before turn i -/
theorem for_ix {g : GF} {body : SF} : ∀ (ds : List D) (P : Nat → Ev → Ms → Prop) (env : Ev) (M : Ms), P 0 env M → (∀ i d env M, ds[i]? = some d → P i env M → ∃ e1 M1 e2 M2, g (.d d) env M = some (e1, M1) ∧ (body e1 M1 = some (.nx e2 M2) ∨ body e1 M1 = some (.ct e2 M2)) ∧ P (i + 1) e2 M2) →
    ∃ e2 M2, forD g body ds env M = some (.nx e2 M2) ∧ P ds.length e2 M2
  | [], P, env, M, h0, _ => ⟨env, M, rfl, h0⟩
  | d :: ds, P, env, M, h0, hs => by
    obtain ⟨e1, M1, e2, M2, k1, k2, k3⟩ := hs 0 d env M rfl h0
    obtain ⟨e3, M3, h1, h2⟩ := for_ix ds (fun i => P (i + 1)) e2 M2 k3 fun i x env M hi h => hs (i + 1) x env M (by simpa using hi) h
    refine ⟨e3, M3, ?_, h2⟩
    unfold forD
    rcases k2 with k2 | k2 <;> simp only [k1, k2, h1]
/-- .. that ends by a return at turn k -/
theorem for_ret {g : GF} {body : SF} {s : S} {Mr : Ms} : ∀ (ds : List D) (k : Nat) (P : Nat → Ev → Ms → Prop) (env : Ev) (M : Ms), k < ds.length → P 0 env M → (∀ i d env M, i < k → ds[i]? = some d → P i env M → ∃ e1 M1 e2 M2, g (.d d) env M = some (e1, M1) ∧ (body e1 M1 = some (.nx e2 M2) ∨ body e1 M1 = some (.ct e2 M2)) ∧ P (i + 1) e2 M2) →
    (∀ env M, P k env M → ∃ d e1 M1, ds[k]? = some d ∧ g (.d d) env M = some (e1, M1) ∧ body e1 M1 = some (.rt s Mr)) → forD g body ds env M = some (.rt s Mr)
  | [], k, P, env, M, hk, _, _, _ => by simp at hk
  | d :: ds, 0, P, env, M, hk, h0, hs, hr => by
    obtain ⟨d', e1, M1, h1, h2, h3⟩ := hr env M h0
    simp at h1
    subst h1
    unfold forD
    simp only [h2, h3]
  | d :: ds, k + 1, P, env, M, hk, h0, hs, hr => by
    obtain ⟨e1, M1, e2, M2, k1, k2, k3⟩ := hs 0 d env M (by omega) rfl h0
    have ih := for_ret ds k (fun i => P (i + 1)) e2 M2 (by simpa using hk) k3 (fun i x env M hi hx h => hs (i + 1) x env M (by omega) (by simpa using hx) h) fun env M h => by
      obtain ⟨d', e1, M1, h1, h2, h3⟩ := hr env M h
      exact ⟨d', e1, M1, by simpa using h1, h2, h3⟩
    unfold forD
    rcases k2 with k2 | k2 <;> simp only [k1, k2, ih]
/-- a loop over range: P i before turn i -/
theorem for_range {g : GF} {body : SF} (P : Nat → Ev → Ms → Prop) (lo : Int) {env : Ev} {M : Ms} (n : Nat) (h0 : P 0 env M) (hs : ∀ i (x : Int) env M, x = lo + (i : Nat) → i < n → P i env M → ∃ e1 M1 e2 M2, g (.d (.int x)) env M = some (e1, M1) ∧ (body e1 M1 = some (.nx e2 M2) ∨ body e1 M1 = some (.ct e2 M2)) ∧ P (i + 1) e2 M2) :
    ∃ e2 M2, forD g body (rangeD lo n) env M = some (.nx e2 M2) ∧ P n e2 M2 := by
  have hl : (rangeD lo n).length = n := by unfold rangeD; rw [List.length_map, List.length_range]
  obtain ⟨e2, M2, h1, h2⟩ := for_ix (g := g) (body := body) (rangeD lo n) P env M h0 fun i d env M hi h => by
    have hin : i < n := by
      obtain ⟨q, _⟩ := List.getElem?_eq_some_iff.mp hi
      omega
    rw [rangeD_get hin] at hi
    cases hi
    exact hs i _ env M rfl hin h
  rw [hl] at h2
  exact ⟨e2, M2, h1, h2⟩
theorem for_rangeR {g : GF} {body : SF} {s : S} {Mr : Ms} (P : Nat → Ev → Ms → Prop) (lo : Int) {env : Ev} {M : Ms} (n k : Nat) (hk : k < n) (h0 : P 0 env M) (hs : ∀ i (x : Int) env M, x = lo + (i : Nat) → i < k → P i env M → ∃ e1 M1 e2 M2, g (.d (.int x)) env M = some (e1, M1) ∧ (body e1 M1 = some (.nx e2 M2) ∨ body e1 M1 = some (.ct e2 M2)) ∧ P (i + 1) e2 M2)
    (hr : ∀ (x : Int) env M, x = lo + (k : Nat) → P k env M → ∃ e1 M1, g (.d (.int x)) env M = some (e1, M1) ∧ body e1 M1 = some (.rt s Mr)) : forD g body (rangeD lo n) env M = some (.rt s Mr) := by
  refine for_ret (rangeD lo n) k P env M (by unfold rangeD; rw [List.length_map, List.length_range]; exact hk) h0 (fun i d env M hi hd h => ?_) fun env M h => ?_
  · rw [rangeD_get (by omega)] at hd
    cases hd
    exact hs i _ env M rfl hi h
  · obtain ⟨e1, M1, a, b⟩ := hr _ env M rfl h
    exact ⟨_, e1, M1, rangeD_get hk, a, b⟩
theorem scr_at {ns : List Int} {i : Int} (h0 : 0 ≤ i) (h1 : i < ns.length) : ∃ v : Int, dIdx (.scr ns) (.int i) = some (.int v) := by
  have hi : i.toNat < ns.length := by omega
  refine ⟨ns[i.toNat], ?_⟩
  show (atI ns i).map D.int = _
  unfold atI ixN
  rw [if_pos h0, if_pos h1]
  simp [List.getElem?_eq_getElem hi]
theorem ne_nil (ns : List Int) : gNe (.scr ns) (.lst []) = some (.bl (!ns.isEmpty)) := by
  have hd : ∀ ms : List Int, PyData.depthAll (ms.map PyData.int) ≤ 0 := fun ms => by
    induction ms with
    | nil => simp [PyData.depthAll]
    | cons m ms ih => simp only [List.map_cons, PyData.depthAll, PyData.depth]; omega
  have h1 : (PyData.list (ns.map PyData.int)).depth ≤ 64 := by simp only [PyData.depth]; have := hd ns; omega
  have h2 : (PyData.list []).depth ≤ 64 := by simp [PyData.depth, PyData.depthAll]
  have e1 : D.py (.scr ns) = some (.list (ns.map PyData.int)) := by unfold D.py; rfl
  have e2 : D.py (.lst []) = some (.list []) := by unfold D.py pys; rfl
  have e0 : eqS (.scr ns) (.lst []) = none := rfl
  unfold gNe eqD
  rw [e0]
  show (match eqP (.scr ns) (.lst []) with | some b => some (D.bl (!b)) | none => none) = _
  unfold eqP
  rw [e1, e2]
  simp only [h1, h2, and_self, if_true]
  cases ns <;> simp [PyData.eqv, PyData.eqvAll]
/-- a comprehension over things of any kind -/
theorem lcD_map {α : Type} {g : GF} {c : TF} {f : EF} {vs : List Nat} {env : Ev} {M : Ms} (din dout : α → D) (p : α → Bool) : ∀ (xs : List α) (acc : List D), (∀ x ∈ xs, ∀ acc : List D, ∃ e1, g (.d (din x)) (wipeE env vs) (M ++ [.lst acc]) = some (e1, M ++ [.lst acc]) ∧ c e1 (M ++ [.lst acc]) = some (p x, M ++ [.lst acc]) ∧ (p x = true → f e1 (M ++ [.lst acc]) = some (.d (dout x), M ++ [.lst acc]))) →
    acc.length + xs.length ≤ sizeLine → lcD g c f vs M.length (xs.map din) env (M ++ [.lst acc]) = some (M ++ [.lst (acc ++ (xs.filter p).map dout)])
  | [], acc, _, _ => by simp [lcD]
  | x :: xs, acc, hs, hl => by
    obtain ⟨e1, h1, h2, h3⟩ := hs x (by simp) acc
    rw [List.map_cons]
    unfold lcD
    simp only [h1, h2]
    have hl' : acc.length + (xs.length + 1) ≤ sizeLine := hl
    cases hp : p x with
    | false =>
      simp only [List.filter_cons, hp]
      exact lcD_map din dout p xs acc (fun y hy => hs y (List.mem_cons_of_mem _ hy)) (by omega)
    | true =>
      have ih := lcD_map din dout p xs (acc ++ [dout x]) (fun y hy => hs y (List.mem_cons_of_mem _ hy)) (by simp; omega)
      simp only [h3 hp, r_frz_d, List.getElem?_append_right (Nat.le_refl _), Nat.sub_self, List.getElem?_cons_zero, List.filter_cons, hp, if_true, List.map_cons]
      rw [if_pos (by omega), List.set_append_right _ _ (Nat.le_refl _), Nat.sub_self, List.set_cons_zero, ih]
      simp
theorem cLc_filter {α : Type} {fi : IF} {g : GF} {c : TF} {f : EF} {vs : List Nat} {env : Ev} {M M1 : Ms} (xs : List α) (din dout : α → D) (p : α → Bool) (hi : fi env M = some (xs.map din, M1))
    (hs : ∀ x ∈ xs, ∀ acc : List D, ∃ e1, g (.d (din x)) (wipeE env vs) (M1 ++ [.lst acc]) = some (e1, M1 ++ [.lst acc]) ∧ c e1 (M1 ++ [.lst acc]) = some (p x, M1 ++ [.lst acc]) ∧ (p x = true → f e1 (M1 ++ [.lst acc]) = some (.d (dout x), M1 ++ [.lst acc])))
    (hl : xs.length ≤ sizeLine) : cLc fi g c f vs env M = some (.lst ((xs.filter p).map dout), M1) := by
  unfold cLc
  simp only [hi]
  rw [lcD_map din dout p xs [] hs (by simpa using hl)]
  simp
theorem cLc_map {α : Type} {fi : IF} {g : GF} {f : EF} {vs : List Nat} {env : Ev} {M M1 : Ms} (xs : List α) (din dout : α → D) (hi : fi env M = some (xs.map din, M1))
    (hs : ∀ x ∈ xs, ∀ acc : List D, ∃ e1, g (.d (din x)) (wipeE env vs) (M1 ++ [.lst acc]) = some (e1, M1 ++ [.lst acc]) ∧ f e1 (M1 ++ [.lst acc]) = some (.d (dout x), M1 ++ [.lst acc]))
    (hl : xs.length ≤ sizeLine) : cLc fi g tTrue f vs env M = some (.lst (xs.map dout), M1) := by
  have := cLc_filter (c := tTrue) xs din dout (fun _ => true) hi (fun x hx acc => by
    obtain ⟨e1, h1, h2⟩ := hs x hx acc
    exact ⟨e1, h1, rfl, fun _ => h2⟩) hl
  rw [List.filter_eq_self.mpr (fun _ _ => rfl)] at this
  exact this
theorem r_gSum (ns : List Int) : gSum [.lst (ns.map D.int)] = some (.int ns.sum) := by
  unfold gSum gOfInts lstOf
  simp
@[simp] theorem r_frz_h (M : Ms) (k : Nat) : frz M (.hd k) = match M[k]? with
    | some c => some (c.toD, M.set k (.frz c.toD))
    | none => none := id rfl
@[simp] theorem r_toD_l (ds : List D) : (Cell.lst ds).toD = .lst ds := id rfl
@[simp] theorem r_toD_d (ds : List (Key × D)) : (Cell.dct ds).toD = .dct ds := id rfl
@[simp] theorem r_toD_o (c : Str) (gs : List (Str × D)) : (Cell.obj c gs).toD = .obj c gs := id rfl
@[simp] theorem r_toD_f (d : D) : (Cell.frz d).toD = d := id rfl
@[simp] theorem r_gIaddI (i j : Int) : gIadd (.int i) (.int j) = some (.int (i + j)) := id rfl
section
variable {env : Ev} {M : Ms} {fa fb fc : EF}
@[simp] theorem r_sAugS (g : D → D → Option D) (fo fi fe : EF) : sAugS g fo fi fe env M = match fo env M with
  | some (o, M1) => match fi env M1 with
    | some (i, M2) => match view M2 o with
      | some d => match view M2 i with
        | some di => match augGet d di with
          | some x => match fe env M2 with
            | some (s, M3) => match view M3 s with
              | some y => match g x y with
                | some z => match setCell M3 o di z with
                  | some M4 => some (.nx env M4)
                  | none => none
                | none => none
              | none => none
            | none => none
          | none => none
        | none => none
      | none => none
    | none => none
  | none => none := id rfl
@[simp] theorem r_sAugAny (i : Nat) (g : D → D → Option D) : sAugAny i g fa env M = match env[i]? with
  | some (some (.d _)) => sAug i g fa env M
  | some (some (.hd _)) => sAugL i fa env M
  | _ => none := id rfl
@[simp] theorem r_sAug (i : Nat) (g : D → D → Option D) : sAug i g fa env M = match env[i]? with
  | some (some (.d x)) => match fa env M with
    | some (s, M1) => match view M1 s with
      | some y => match g x y with
        | some r => some (.nx (env.set i (some (.d r))) M1)
        | none => none
      | none => none
    | none => none
  | _ => none := id rfl
@[simp] theorem r_sAugL (i : Nat) : sAugL i fa env M = match env[i]? with
  | some (some (.hd k)) => match fa env M with
    | some (s, M1) => match view M1 s with
      | some (.lst zs) => match M1[k]? with
        | some (.lst xs) => if xs.length + zs.length ≤ sizeLine then some (.nx env (M1.set k (.lst (xs ++ zs)))) else none
        | _ => none
      | _ => none
    | none => none
  | _ => none := id rfl
@[simp] theorem r_eAppend (fo fe : EF) : eAppend fo fe env M = match fo env M with
  | some (.hd k, M1) => match M1[k]? with
    | some (.lst _) => match fe env M1 with
      | some (s, M2) => match frz M2 s with
        | some (d, M3) => match M3[k]? with
          | some (.lst ds) => if ds.length < sizeLine then some (.d .non, M3.set k (.lst (ds ++ [d]))) else none
          | _ => none
        | none => none
      | none => none
    | _ => none
  | _ => none := id rfl
@[simp] theorem r_gSubD (fo fi : EF) (s : S) : gSubD fo fi s env M = match fo env M with
  | some (o, M1) => match fi env M1 with
    | some (i, M2) => match view M2 i with
      | some di => match frz M2 s with
        | some (d, M3) => match setCell M3 o di d with
          | some M4 => some (env, M4)
          | none => none
        | none => none
      | none => none
    | none => none
  | none => none := id rfl
@[simp] theorem r_gFldD (na : Str → Str → Bool) (x : Str) (fo : EF) (s : S) : gFldD na x fo s env M = match fo env M with
  | some (o, M1) => match frz M1 s with
    | some (d, M2) => match setFld na M2 o x d with
      | some M3 => some (env, M3)
      | none => none
    | none => none
  | none => none := id rfl
end
@[simp] theorem r_atI0 {α : Type} (x : α) (r : List α) : atI (x :: r) 0 = some x := by simp [atI, ixN]
@[simp] theorem r_atI1 {α : Type} (x y : α) (r : List α) : atI (x :: y :: r) 1 = some y := by
  have : (1 : Int) < (r.length : Int) + 1 + 1 := by omega
  simp [atI, ixN, this]
end G
/-! Dicts: displays, walks over pairs, keys, values; get, index. -/
namespace G
open PySem L2
abbrev KF := Ev → Ms → Option (List (Key × D) × Ms)
/-- the dict that e gives, changed no more -/
def dctOf (fa : EF) : KF := fun env M => match fa env M with
  | some (s, M1) => match frz M1 s with
    | some (.dct kds, M2) => some (kds, M2)
    | _ => none
  | none => none
def tLk (W : Wd) (f : KF) : TE := fun σ H Q => ∃ env M kds M' F κ, f env M = some (kds, M') ∧ Stt W.K W.cA F H κ M ∧ EnvR W.K W.cA F κ σ env ∧
  ∀ F' κ' H' p o kvs, Ext F κ F' κ' → Stt W.K W.cA F' H' κ' M' → F' p = some (.frz o (.dK kvs)) → kvs.map (·.1) = kds.map (·.1) → Reps W.K W.cA F' (kvs.map (·.2)) (kds.map (·.2)) → Q (.ref p) H'
theorem Stt.lockD {K : PySem.W.Frag} {cA : Str → Option Addr} {F H : Hp} {κ : List Addr} {M : Ms} (t : Stt K cA F H κ M) {p : Addr} {kvs : List (Key × V)} {o : Obj} (hF : F p = some (.dK kvs)) {H' : Hp} (hH : H' = upd H p (.frz o (.dK kvs))) :
    SubH F (upd F p (.frz o (.dK kvs))) ∧ Stt K cA (upd F p (.frz o (.dK kvs))) H' κ M := by
  have sF : SubH F (upd F p (.frz o (.dK kvs))) := fun b u e => by
    by_cases hb : b = p
    · subst hb; rw [hF] at e; cases e; exact .inr ⟨kvs, o, rfl, upd_same⟩
    · rw [upd_ne hb]; exact .inl e
  refine ⟨sF, ?_⟩
  subst hH
  refine ⟨fun b u e => ?_, t.nd, t.len, fun a ha => ?_, fun k a c e1 e2 => ?_⟩
  · by_cases hb : b = p
    · subst hb; rw [upd_same] at e ⊢; exact .inl e
    · rw [upd_ne hb] at e ⊢; exact t.sub b u e
  · by_cases hb : a = p
    · subst hb; exact ⟨_, upd_same⟩
    · rw [upd_ne hb]; exact t.tr a ha
  · have q := t.cell k a c e1 e2
    have ne : F a = none → a ≠ p := fun h e => by rw [e, hF] at h; cases h
    cases c with
    | lst ds => obtain ⟨f, vs, q1, q2⟩ := q; exact ⟨by rw [upd_ne (ne f)]; exact f, vs, by rw [upd_ne (ne f)]; exact q1, q2.mono sF⟩
    | dct kds => obtain ⟨f, kvs, q1, q2, q3⟩ := q; exact ⟨by rw [upd_ne (ne f)]; exact f, kvs, by rw [upd_ne (ne f)]; exact q1, q2, q3.mono sF⟩
    | obj c gs => obtain ⟨f, C, dx, fs, q1, q2, q3, q4, q5⟩ := q; exact ⟨by rw [upd_ne (ne f)]; exact f, C, dx, fs, q1, by rw [upd_ne (ne f)]; exact q2, q3, q4.mono sF, q5⟩
    | frz d => exact Rep.mono sF q
/-- the same where the heap has it locked -/
theorem Stt.lockF {K : PySem.W.Frag} {cA : Str → Option Addr} {F H : Hp} {κ : List Addr} {M : Ms} (t : Stt K cA F H κ M) {p : Addr} {kvs : List (Key × V)} {o : Obj} (hF : F p = some (.dK kvs)) (hH : H p = some (.frz o (.dK kvs))) :
    SubH F (upd F p (.frz o (.dK kvs))) ∧ Stt K cA (upd F p (.frz o (.dK kvs))) H κ M := t.lockD hF (by
  funext b
  by_cases hb : b = p
  · subst hb; rw [upd_same]; exact hH
  · rw [upd_ne hb])
section
variable {W : Wd} {N : List Str} {sc : Scp} {a b c : Expr} {fa fb fc : EF} {es : List Expr} {ga : AF} {pos : Pos} {tg : Expr}
theorem dk_lock (ha : DE W N sc a fa) : ∀ X, Gd W N sc X → PE X a (tLk W (dctOf fa)) := by
  intro X gd
  refine ⟨fun pins s σ H Q I h => ?_⟩
  obtain ⟨env, M, kds, M', F, κ, e, t, er, k⟩ := h
  unfold dctOf at e
  split at e
  rotate_left
  · cases e
  rename_i s1 M1 e1
  split at e
  rotate_left
  · cases e
  rename_i kds' M2 e2
  simp only [Option.some.injEq, Prod.mk.injEq] at e
  obtain ⟨rfl, rfl⟩ := e
  refine thn ((ha X gd).run pins s σ H (fun v H1 => ∃ F1 κ1, Ext F κ F1 κ1 ∧ Stt W.K W.cA F1 H1 κ1 M2 ∧ Rep W.K W.cA F1 v (.dct kds')) I ⟨env, M, s1, M1, F, κ, e1, t, er, fun F1 κ1 H1 v x1 t1 r => ?_⟩) fun u s2 ⟨v, H1, I1, r1, F1, κ1, x1, t1, rep⟩ => ?_
  · obtain ⟨F2, x2, t2, r2⟩ := t1.frz r e2
    exact ⟨F2, κ1, x1.trans x2, t2, r2⟩
  · cases rep with
    | dct q en rs =>
      rename_i p kvs
      rcases q with q | ⟨o, q⟩
      · rcases t1.sub p _ q with z | ⟨kvs', o, z1, z2⟩
        · obtain ⟨od, I2⟩ := I1.lock z trivial
          obtain ⟨sF, t2⟩ := t1.lockD (o := od) q rfl
          exact ⟨.ref p, _, I2, r1, k _ κ1 _ p od kvs (x1.trans (.sub' sF)) t2 upd_same en (rs.mono sF)⟩
        · cases z1
          obtain ⟨sF, t2⟩ := t1.lockF q z2
          exact ⟨.ref p, _, I1, r1, k _ κ1 _ p o kvs (x1.trans (.sub' sF)) t2 upd_same en (rs.mono sF)⟩
      · exact ⟨.ref p, _, I1, r1, k _ κ1 _ p o kvs x1 t1 q en rs⟩
def kD : Key → D
  | .inl i => .int i
  | .inr s => .str s
theorem kD_rep (K : PySem.W.Frag) (cA : Str → Option Addr) (F : Hp) (k : Key) : Rep K cA F (kV k) (kD k) := by
  cases k with
  | inl i => exact .int i
  | inr s => exact .str s
def iItemsD (fa : EF) : IF := fun env M => match dctOf fa env M with
  | some (kds, M1) => some (kds.map fun kv => .tup [kD kv.1, kv.2], M1)
  | none => none
def iValsD (fa : EF) : IF := fun env M => match dctOf fa env M with
  | some (kds, M1) => some (kds.map (·.2), M1)
  | none => none
def iKeysD (fa : EF) : IF := fun env M => match dctOf fa env M with
  | some (kds, M1) => some (kds.map fun kv => kD kv.1, M1)
  | none => none
theorem kvs_get {K : PySem.W.Frag} {cA : Str → Option Addr} {F : Hp} {kvs : List (Key × V)} {kds : List (Key × D)} (en : kvs.map (·.1) = kds.map (·.1)) (rs : Reps K cA F (kvs.map (·.2)) (kds.map (·.2))) {i : Nat} {k : Key} {v : V} (h : kvs[i]? = some (k, v)) : ∃ d, kds[i]? = some (k, d) ∧ Rep K cA F v d := by
  have h1 : (kvs.map (·.2))[i]? = some v := by rw [List.getElem?_map, h]; rfl
  obtain ⟨d, hd, r⟩ := rs.getV h1
  have h2 : (kvs.map (·.1))[i]? = some k := by rw [List.getElem?_map, h]; rfl
  rw [en] at h2
  rw [List.getElem?_map] at h2 hd
  cases e : kds[i]? with
  | none => rw [e] at hd; cases hd
  | some p =>
    rw [e] at h2 hd
    obtain ⟨k', d'⟩ := p
    cases h2; cases hd
    exact ⟨d', rfl, r⟩
theorem itok_items {F : Hp} {p : Addr} {o : Obj} {kvs : List (Key × V)} {kds : List (Key × D)} (hq : F p = some (.frz o (.dK kvs))) (en : kvs.map (·.1) = kds.map (·.1)) (rs : Reps W.K W.cA F (kvs.map (·.2)) (kds.map (·.2))) : ItOk W F (Iti p o kvs) (kds.map fun kv => .tup [kD kv.1, kv.2]) := by
  have hl : kvs.length = kds.length := by simpa using congrArg List.length en
  refine ⟨_, _, by rw [List.length_map, ← hl]; exact walk_items, fun F1 H hs h1 => h1.frz (hs.frz hq), fun i H x H' F1 d hd hs h1 hy => ?_⟩
  obtain ⟨T, x1, y1, rfl, hT, rfl, hx, hy⟩ := hy
  have hx : kvs[i]?.map (fun kv => kV kv.1) = some x1 := hx
  have hy : kvs[i]?.map Prod.snd = some y1 := hy
  cases e : kvs[i]? with
  | none => rw [e] at hx; cases hx
  | some kv =>
    obtain ⟨k, v⟩ := kv
    rw [e] at hx hy
    cases hx; cases hy
    obtain ⟨d1, hd1, r1⟩ := kvs_get en rs e
    have : d = .tup [kD k, d1] := by
      rw [List.getElem?_map, hd1] at hd
      exact (Option.some.inj hd).symm
    subst this
    exact new_pair (F := F) h1 hT (kD_rep _ _ _ k) (r1.mono hs)
theorem itok_vals {F : Hp} {p : Addr} {o : Obj} {kvs : List (Key × V)} {kds : List (Key × D)} (hq : F p = some (.frz o (.dK kvs))) (en : kvs.map (·.1) = kds.map (·.1)) (rs : Reps W.K W.cA F (kvs.map (·.2)) (kds.map (·.2))) : ItOk W F (Itd p o kvs) (kds.map (·.2)) := by
  have hl : kvs.length = kds.length := by simpa using congrArg List.length en
  refine ⟨_, _, by rw [List.length_map, ← hl]; exact walk_values, fun F1 H hs h1 => h1.frz (hs.frz hq), fun i H x H' F1 d hd hs h1 hy => ?_⟩
  obtain ⟨rfl, k, e⟩ := hy
  obtain ⟨d1, hd1, r1⟩ := kvs_get en rs e
  have : d = d1 := by
    rw [List.getElem?_map, hd1] at hd
    exact (Option.some.inj hd).symm
  subst this
  exact ⟨F1, New.refl h1, r1.mono hs⟩
theorem itok_keys {F : Hp} {p : Addr} {o : Obj} {kvs : List (Key × V)} {kds : List (Key × D)} (hq : F p = some (.frz o (.dK kvs))) (en : kvs.map (·.1) = kds.map (·.1)) (rs : Reps W.K W.cA F (kvs.map (·.2)) (kds.map (·.2))) : ItOk W F (Itk p o kvs) (kds.map fun kv => kD kv.1) := by
  have hl : kvs.length = kds.length := by simpa using congrArg List.length en
  refine ⟨_, _, by rw [List.length_map, ← hl]; exact walk_keys, fun F1 H hs h1 => h1.frz (hs.frz hq), fun i H x H' F1 d hd hs h1 hy => ?_⟩
  obtain ⟨rfl, k, v, e, rfl⟩ := hy
  obtain ⟨d1, hd1, r1⟩ := kvs_get en rs e
  have : d = kD k := by
    rw [List.getElem?_map, hd1] at hd
    exact (Option.some.inj hd).symm
  subst this
  exact ⟨F1, New.refl h1, kD_rep _ _ _ k⟩
theorem di_items {apos tpos cpos : Pos} {elts : List Expr} {kk : Nat} (hb : notSuper a = true) (hline : (apos.endLine == cpos.line) = true) (ha : DE W N sc a fa) : DI W N sc (.Tuple elts kk tpos) (.Call (.Attribute a "items" apos) [] [] cpos) (iItemsD fa) := by
  intro X gd
  refine PI.imp (pi_items (dk_lock ha X gd) (attr_base hb _ _) hline) fun σ H R h => ?_
  obtain ⟨env, M, ds, M', F, κ, e, t, er, k⟩ := h
  unfold iItemsD at e
  split at e
  rotate_left
  · cases e
  rename_i kds M1 e1
  simp only [Option.some.injEq, Prod.mk.injEq] at e
  obtain ⟨rfl, rfl⟩ := e
  exact ⟨env, M, kds, M1, F, κ, e1, t, er, fun F1 κ1 H1 p o kvs x1 t1 q en rs => ⟨p, o, kvs, rfl, t1.sub.frz q, k F1 κ1 H1 _ x1 t1 (itok_items q en rs)⟩⟩
theorem di_vals {apos cpos : Pos} (hb : notSuper a = true) (hline : (apos.endLine == cpos.line) = true) (ha : DE W N sc a fa) : DI W N sc tg (.Call (.Attribute a "values" apos) [] [] cpos) (iValsD fa) := by
  intro X gd
  refine PI.imp (pi_values (dk_lock ha X gd) (attr_base hb _ _) hline) fun σ H R h => ?_
  obtain ⟨env, M, ds, M', F, κ, e, t, er, k⟩ := h
  unfold iValsD at e
  split at e
  rotate_left
  · cases e
  rename_i kds M1 e1
  simp only [Option.some.injEq, Prod.mk.injEq] at e
  obtain ⟨rfl, rfl⟩ := e
  exact ⟨env, M, kds, M1, F, κ, e1, t, er, fun F1 κ1 H1 p o kvs x1 t1 q en rs => ⟨p, o, kvs, rfl, t1.sub.frz q, k F1 κ1 H1 _ x1 t1 (itok_vals q en rs)⟩⟩
theorem di_keys (ha : DE W N sc a fa) : DI W N sc tg a (iKeysD fa) := by
  intro X gd
  refine PI.imp (pi_keys (dk_lock ha X gd)) fun σ H R h => ?_
  obtain ⟨env, M, ds, M', F, κ, e, t, er, k⟩ := h
  unfold iKeysD at e
  split at e
  rotate_left
  · cases e
  rename_i kds M1 e1
  simp only [Option.some.injEq, Prod.mk.injEq] at e
  obtain ⟨rfl, rfl⟩ := e
  exact ⟨env, M, kds, M1, F, κ, e1, t, er, fun F1 κ1 H1 p o kvs x1 t1 q en rs => ⟨p, o, rfl, .inl ⟨kvs, t1.sub.frz q, k F1 κ1 H1 _ x1 t1 (itok_keys q en rs)⟩⟩⟩
end
end G
/-! Dict displays, get, index, dicts compared. -/
namespace G
open PySem L2
/-! ### {k: v, ..} -/
def tPairV (W : Wd) (f : KF) : L2.St → Hp → (List (V × V) → Hp → Prop) → Prop := fun σ H Q => ∃ env M kds M' F κ, f env M = some (kds, M') ∧ Stt W.K W.cA F H κ M ∧ EnvR W.K W.cA F κ σ env ∧
  ∀ F' κ' H' (kvs : List (Key × V)), Ext F κ F' κ' → Stt W.K W.cA F' H' κ' M' → kvs.map (·.1) = kds.map (·.1) → Reps W.K W.cA F' (kvs.map (·.2)) (kds.map (·.2)) → Q (kvs.map fun (kv : Key × V) => (kV kv.1, kv.2)) H'
def DPs (W : Wd) (N : List Str) (sc : Scp) (keys : List (Option Expr)) (values : List Expr) (f : KF) : Prop := ∀ X, Gd W N sc X → ∀ pos, ∃ trs, PPs X pos keys values trs ∧ ∀ σ H Q, tPairV W f σ H Q → tPairs trs σ H Q
def dpNil : KF := fun _ M => some ([], M)
def dpCons (fk fv : EF) (r : KF) : KF := fun env M => match fk env M with
  | some (s, M1) => match view M1 s with
    | some dk => match keyD dk with
      | some k => match fv env M1 with
        | some (s', M2) => match frz M2 s' with
          | some (d, M3) => match r env M3 with
            | some (kds, M4) => some ((k, d) :: kds, M4)
            | none => none
          | none => none
        | none => none
      | none => none
    | none => none
  | none => none
def cDisp (f : KF) : CF := fun env M => match f env (M ++ [.dct []]) with
  | some (kds, M1) => match M1[M.length]? with
    | some (.dct []) => if kds.length ≤ 15 then some (.dct (mergeD [] kds), M1.take M.length) else none
    | _ => none
  | none => none
section
variable {W : Wd} {N : List Str} {sc : Scp} {a b c : Expr} {fa fb fc : EF} {es : List Expr} {ga : AF} {pos : Pos} {tg : Expr}
theorem dp_nil : DPs W N sc [] [] dpNil := by
  intro X gd pos
  refine ⟨[], pps_nil, fun σ H Q h => ?_⟩
  obtain ⟨env, M, kds, M', F, κ, e, t, er, k⟩ := h
  simp only [dpNil, Option.some.injEq, Prod.mk.injEq] at e
  obtain ⟨rfl, rfl⟩ := e
  exact k F κ H [] (.refl _ _) t rfl .nil
theorem dp_cons {keys : List (Option Expr)} {values : List Expr} {f : KF} (ha : DE W N sc a fa) (hb : DE W N sc b fb) (hr : DPs W N sc keys values f) : DPs W N sc (some a :: keys) (b :: values) (dpCons fa fb f) := by
  intro X gd pos
  obtain ⟨trs, h1, h2⟩ := hr X gd pos
  refine ⟨_, pps_cons (ha X gd) (hb X gd) h1, fun σ H Q h => ?_⟩
  obtain ⟨env, M, kds, M', F, κ, e, t, er, k⟩ := h
  unfold dpCons at e
  split at e
  rotate_left
  · cases e
  rename_i s M1 e1
  split at e
  rotate_left
  · cases e
  rename_i dk e2
  split at e
  rotate_left
  · cases e
  rename_i kk e3
  split at e
  rotate_left
  · cases e
  rename_i s' M2 e4
  split at e
  rotate_left
  · cases e
  rename_i d M3 e5
  split at e
  rotate_left
  · cases e
  rename_i kds' M4 e6
  simp only [Option.some.injEq, Prod.mk.injEq] at e
  obtain ⟨rfl, rfl⟩ := e
  refine ⟨env, M, s, M1, F, κ, e1, t, er, fun F1 κ1 H1 v1 x1 t1 r1 => ?_⟩
  have hk := keyD_rep (t1.view r1 e2) e3
  subst hk
  refine ⟨env, M1, s', M2, F1, κ1, e4, t1, er.ext x1, fun F2 κ2 H2 v2 x2 t2 r2 => ?_⟩
  obtain ⟨F3, x3, t3, r3⟩ := t2.frz r2 e5
  refine h2 σ H2 _ ⟨env, M3, kds', M4, F3, κ2, e6, t3, ((er.ext x1).ext x2).ext x3, fun F4 κ4 H4 kvs x4 t4 en rs => ?_⟩
  exact k F4 κ4 H4 ((kk, v2) :: kvs) (((x1.trans x2).trans x3).trans x4) t4 (by simp [en]) (.cons (r3.mono x4.sub) rs)
theorem df_dct {keys : List (Option Expr)} {values : List Expr} {f : KF} (hall : keys.all (·.isSome) = true) (hl : keys.length = values.length) (h0 : keys ≠ []) (h15 : keys.length ≤ 15) (h : DPs W N sc keys values f) : DF W N sc (.Dict keys values pos) (cDisp f) := by
  intro X gd
  obtain ⟨trs, h1, h2⟩ := h X gd pos
  refine PE.imp (pe_disp h1 hall hl h0 h15) fun σ H Q h => ?_
  obtain ⟨env, M, c0, M', F, κ, e, t, er, k⟩ := h
  unfold cDisp at e
  split at e
  rotate_left
  · cases e
  rename_i kds M1 e1
  split at e
  rotate_left
  · cases e
  rename_i e2
  split at e
  rotate_left
  · cases e
  rename_i hz
  simp only [Option.some.injEq, Prod.mk.injEq] at e
  obtain ⟨rfl, rfl⟩ := e
  intro p hp
  have n0 : New F H F (upd H p (.dK [])) := New.oneH t.sub hp
  have t1 : Stt W.K W.cA F (upd H p (.dK [])) (κ ++ [p]) (M ++ [.dct []]) := t.push hp n0 (c := .dct []) ⟨t.sub.none hp, [], upd_same, rfl, .nil⟩ (fun d z => by cases z)
  have x0 : Ext F κ F (κ ++ [p]) := ⟨.refl _, [p], rfl⟩
  refine h2 σ _ _ ⟨env, _, kds, M1, F, κ ++ [p], e1, t1, er.ext x0, fun F2 κ2 H2 kvs x2 t2 en rs => ?_⟩
  have hkp : κ2[M.length]? = some p := by
    obtain ⟨_, m, rfl⟩ := x2
    rw [← t.len]
    simp
  obtain ⟨fp, kv0, q1, q2, q3⟩ := t2.cell M.length p _ hkp e2
  have hk0 : kv0 = [] := by cases kv0 with | nil => rfl | cons _ _ => simp at q2
  subst hk0
  have hlen : kvs.length = kds.length := by simpa using congrArg List.length en
  refine ⟨q1, kvs, rfl, by rw [hlen]; exact hz, ?_⟩
  obtain ⟨m1, m2⟩ := merge_rep (kvs := []) (kds := []) en rs rfl .nil
  -- the new dict beside the cells that were
  have xx : Ext F κ F2 (κ2.take M.length) := by
    obtain ⟨hs, m, rfl⟩ := x2
    refine ⟨hs, [], ?_⟩
    rw [← t.len]; simp
  have hnp : p ∉ κ2.take M.length := by
    intro hm
    obtain ⟨j, hj, ej⟩ := List.mem_iff_getElem.mp hm
    have hj' : j < M.length := by rw [List.length_take] at hj; omega
    have : κ2[j]? = some p := by
      rw [List.getElem_take] at ej
      rw [List.getElem?_eq_getElem (by rw [List.length_take] at hj; omega), ej]
    have := nodup_get t2.nd this hkp
    omega
  have t3 : Stt W.K W.cA F2 (upd H2 p (.dK (mergeK [] kvs))) (κ2.take M.length) (M1.take M.length) := by
    have t4 := t2.setc hkp e2 fp (o := .dK (mergeK [] kvs)) (c' := .dct (mergeD [] kds)) ⟨fp, _, upd_same, m1, m2⟩
    have t5 := t4.take M.length
    rw [List.take_set_of_le (by omega)] at t5
    exact t5
  exact k F2 _ _ p xx t3 hnp rfl ⟨fp, _, upd_same, m1, m2⟩
end
end G
/-! index, get. -/
namespace G
open PySem L2
def firstIx {α : Type} (p : α → Bool) : List α → Option Nat
  | [] => none
  | x :: r => if p x then some 0 else (firstIx p r).map Nat.succ
theorem firstIx_some {α : Type} {p : α → Bool} : ∀ {l : List α} {j : Nat}, firstIx p l = some j → ∃ z, l[j]? = some z ∧ p z = true ∧ ∀ (m : Nat) (z' : α), m < j → l[m]? = some z' → p z' = false
  | [], j, h => by cases h
  | x :: r, j, h => by
    unfold firstIx at h
    split at h
    · rename_i hx
      cases h
      exact ⟨x, rfl, hx, fun m z' hm => by omega⟩
    · rename_i hx
      cases e : firstIx p r with
      | none => rw [e] at h; cases h
      | some i =>
        rw [e] at h
        cases h
        obtain ⟨z, h1, h2, h3⟩ := firstIx_some e
        refine ⟨z, by simpa using h1, h2, fun m z' hm hz => ?_⟩
        cases m with
        | zero => simp at hz; subst hz; simpa using hx
        | succ m => exact h3 m z' (by omega) (by simpa using hz)
def strD : List D → Option (List Str) := fun ds => ds.mapM fun d => match d with
  | .str x => some x
  | _ => none
def gIndex : D → D → Option D
  | .lst ds, y => match pys ds with
    | some xs => match D.py y with
      | some d => if (PyData.list xs).depth ≤ 64 ∧ d.depth ≤ 64 then (firstIx (fun z => PyData.eqv z d) xs).map fun j => .int (j : Nat) else none
      | none => none
    | none => none
  | _, _ => none
theorem pe_or {X : Cx} {e : Expr} {t t' : TE} (h : PE X e t) (h' : PE X e t') : PE X e (fun σ H Q => t σ H Q ∨ t' σ H Q) := ⟨fun pins s σ H Q I hw => hw.elim (h.run pins s σ H Q I) (h'.run pins s σ H Q I)⟩
def notLive : S → Bool
  | .d _ => true
  | .hd _ => false
/-- o.index(e), o looked at before e -/
def eIndex (fo fe : EF) : EF := fun env M => match fo env M with
  | some (s, M1) => match view M1 s with
    | some x => match fe env M1 with
      | some (s', M2) => match view M2 s with
        | some x' => match view M2 s' with
          | some y => match x, gIndex x' y with
            | .lst _, some (.int j) => match x' with
              | .lst _ => some (.d (.int j), M2)
              | _ => none
            | _, _ => none
          | none => none
        | none => none
      | none => none
    | none => none
  | none => none
section
variable {W : Wd} {N : List Str} {sc : Scp} {a b c : Expr} {fa fb fc : EF} {es : List Expr} {ga : AF} {pos : Pos} {tg : Expr}
theorem de_index {apos : Pos} (hb : notSuper a = true) (hst : notStar b = true) (hline : (apos.endLine == pos.line) = true) (ha : DE W N sc a fa) (hbb : DE W N sc b fb) :
    DE W N sc (.Call (.Attribute a "index" apos) [b] [] pos) (eIndex fa fb) := by
  intro X gd
  have hss : [b].all notStar = true := by simp [hst]
  refine PE.imp (pe_bm PySem.F.plainAttrs_list PySem.F.slot_list_index PySem.F.type_list_index (mt_indexD gd.hu64) (ha X gd) (pa_cons (hbb X gd) pa_nil (star_cons hst _ _)) (attr_base hb _ _) (few_args hss (by simp) _ _) hline (star_cons hst _ _) (plain_args (by rfl) _ _)) fun σ H Q h => ?_
  obtain ⟨env, M, s', M', F, κ, e, t, er, k⟩ := h
  unfold eIndex at e
  split at e
  rotate_left
  · cases e
  rename_i s M1 e1
  split at e
  rotate_left
  · cases e
  rename_i x e2
  split at e
  rotate_left
  · cases e
  rename_i s2 M2 e3
  split at e
  rotate_left
  · cases e
  rename_i x' e4
  split at e
  rotate_left
  · cases e
  rename_i y e5
  split at e
  · rename_i ds j e6
    split at e
    rotate_left
    · cases e
    rename_i ds'
    simp only [Option.some.injEq, Prod.mk.injEq] at e
    obtain ⟨rfl, rfl⟩ := e
    refine ⟨env, M, s, M1, F, κ, e1, t, er, fun F1 κ1 H1 v x1 t1 r => ?_⟩
    obtain ⟨p, vs0, rfl, q1, r1⟩ := (t1.view r e2).lst_ t1.sub
    refine ⟨.inl ⟨rfl, _, .of q1⟩, ?_⟩
    refine ⟨env, M1, s2, M2, F1, κ1, e3, t1, er.ext x1, fun F2 κ2 H2 w x2 t2 rw' => ?_⟩
    have vx := t2.view (r.ext x2) e4
    have vy := t2.view rw' e5
    have e6 : (match pys ds' with
      | some xs => match D.py y with
        | some d => if (PyData.list xs).depth ≤ 64 ∧ d.depth ≤ 64 then (firstIx (fun z => PyData.eqv z d) xs).map fun j => D.int (j : Nat) else none
        | none => none
      | none => none) = some (.int j) := e6
    split at e6
    rotate_left
    · cases e6
    rename_i xs p1
    split at e6
    rotate_left
    · cases e6
    rename_i d p2
    split at e6
    rotate_left
    · cases e6
    rename_i hd
    cases e7 : firstIx (fun z => PyData.eqv z d) xs with
    | none => rw [e7] at e6; cases e6
    | some i =>
      rw [e7] at e6
      cases e6
      obtain ⟨z, z1, z2, z3⟩ := firstIx_some e7
      have pl : D.py (.lst ds') = some (.list xs) := by unfold D.py; rw [p1]
      refine ⟨p, w, d, xs, i, z, rfl, rfl, by rw [gd.K]; exact vx.dp t2.sub pl, by rw [gd.K]; exact vy.dp t2.sub p2, shaped_py pl hd.1, shaped_py p2 hd.2, z1, z2, z3, ?_⟩
      exact k F2 κ2 H2 _ (x1.trans x2) t2 (show Rep W.K W.cA F2 (.int (i : Nat)) (.int (i : Nat)) from .int _)
  · cases e
/-- d.get(k) -/
def eGet1 (fo fe : EF) : EF := fun env M => match fo env M with
  | some (s, M1) => match view M1 s with
    | some (.dct _) => match fe env M1 with
      | some (s', M2) => match view M2 s with
        | some (.dct kds) => match view M2 s' with
          | some y => match keyD y with
            | some k => some (.d ((valD kds k).getD .non), M2)
            | none => none
          | none => none
        | _ => none
      | none => none
    | _ => none
  | none => none
/-- d.get(k, x) -/
def eGet2 (fo fe fx : EF) : EF := fun env M => match fo env M with
  | some (s, M1) => match view M1 s with
    | some (.dct _) => match fe env M1 with
      | some (s', M2) => match fx env M2 with
        | some (s'', M3) => match view M3 s with
          | some (.dct kds) => match view M3 s' with
            | some y => match keyD y with
              | some k => match frz M3 s'' with
                | some (d, M4) => some (.d ((valD kds k).getD d), M4)
                | none => none
              | none => none
            | none => none
          | _ => none
        | none => none
      | none => none
    | _ => none
  | none => none
theorem VRep.fr {K : PySem.W.Frag} {cA : Str → Option Addr} {F F' H : Hp} {v : V} {d : D} (hs : SubH F F') (h : VRep K cA F H v d) : VRep K cA F' H v d := by
  cases h with
  | rep q => exact .rep (q.mono hs)
  | lst q r => exact .lst q (r.mono hs)
  | dct q e r => exact .dct q e (r.mono hs)
  | obj c q e r n => exact .obj c q e (r.mono hs) n
theorem getD_rep {K : PySem.W.Frag} {cA : Str → Option Addr} {F : Hp} {kvs : List (Key × V)} {kds : List (Key × D)} {k : Key} (en : kvs.map (·.1) = kds.map (·.1)) (rs : Reps K cA F (kvs.map (·.2)) (kds.map (·.2))) {v : V} {d : D} (r : Rep K cA F v d) : Rep K cA F ((valV kvs k).getD v) ((valD kds k).getD d) := by
  have vv := val_rep (k := k) en rs
  cases e : valD kds k with
  | none => rw [vv.2 e]; exact r
  | some x =>
    obtain ⟨w, hw, rw'⟩ := vv.1 x e
    rw [hw]
    exact rw'
theorem de_get1 {apos : Pos} (hb : notSuper a = true) (hst : notStar b = true) (hline : (apos.endLine == pos.line) = true) (ha : DE W N sc a fa) (hbb : DE W N sc b fb) :
    DE W N sc (.Call (.Attribute a "get" apos) [b] [] pos) (eGet1 fa fb) := by
  intro X gd
  have hss : [b].all notStar = true := by simp [hst]
  refine PE.imp (pe_dget1 gd.hu (ha X gd) (hbb X gd) ⟨attr_base hb _ _, few_args hss (by simp) _ _, hline, by rw [star_cons hst]; rfl⟩) fun σ H Q h => ?_
  obtain ⟨env, M, s', M', F, κ, e, t, er, k⟩ := h
  unfold eGet1 at e
  split at e
  rotate_left
  · cases e
  rename_i s M1 e1
  split at e
  rotate_left
  · cases e
  rename_i kds0 e2
  split at e
  rotate_left
  · cases e
  rename_i s2 M2 e3
  split at e
  rotate_left
  · cases e
  rename_i kds e4
  split at e
  rotate_left
  · cases e
  rename_i y e5
  split at e
  rotate_left
  · cases e
  rename_i kk e6
  simp only [Option.some.injEq, Prod.mk.injEq] at e
  obtain ⟨rfl, rfl⟩ := e
  refine ⟨env, M, s, M1, F, κ, e1, t, er, fun F1 κ1 H1 v x1 t1 r => ?_⟩
  obtain ⟨p, kv0, rfl, q1, _, _⟩ := (t1.view r e2).dct0 t1.sub
  refine ⟨p, rfl, .inl ⟨kv0, q1⟩, ?_⟩
  refine ⟨env, M1, s2, M2, F1, κ1, e3, t1, er.ext x1, fun F2 κ2 H2 w x2 t2 rw' => ?_⟩
  obtain ⟨p', kvs, hp, q2, en, rs⟩ := (t2.view (r.ext x2) e4).dct0 t2.sub
  cases hp
  have hk := keyD_rep (t2.view rw' e5) e6
  subst hk
  exact ⟨valV kvs kk, .inl ⟨kvs, kk, q2, rfl, rfl⟩, k F2 κ2 H2 _ (x1.trans x2) t2 (show Rep W.K W.cA F2 _ _ from getD_rep en rs .non)⟩
theorem de_get2 {apos : Pos} (hb : notSuper a = true) (hst : notStar b = true) (hst2 : notStar c = true) (hline : (apos.endLine == pos.line) = true) (ha : DE W N sc a fa) (hbb : DE W N sc b fb) (hcc : DE W N sc c fc) :
    DE W N sc (.Call (.Attribute a "get" apos) [b, c] [] pos) (eGet2 fa fb fc) := by
  intro X gd
  have hss : [b, c].all notStar = true := by simp [hst, hst2]
  refine PE.imp (pe_dget2 gd.hu (ha X gd) (hbb X gd) (hcc X gd) ⟨attr_base hb _ _, few_args hss (by simp) _ _, hline, by rw [star_cons hst, star_cons hst2]; rfl⟩) fun σ H Q h => ?_
  obtain ⟨env, M, s', M', F, κ, e, t, er, k⟩ := h
  unfold eGet2 at e
  split at e
  rotate_left
  · cases e
  rename_i s M1 e1
  split at e
  rotate_left
  · cases e
  rename_i kds0 e2
  split at e
  rotate_left
  · cases e
  rename_i s2 M2 e3
  split at e
  rotate_left
  · cases e
  rename_i s3 M3 e4
  split at e
  rotate_left
  · cases e
  rename_i kds e5
  split at e
  rotate_left
  · cases e
  rename_i y e6
  split at e
  rotate_left
  · cases e
  rename_i kk e7
  split at e
  rotate_left
  · cases e
  rename_i d M4 e8
  simp only [Option.some.injEq, Prod.mk.injEq] at e
  obtain ⟨rfl, rfl⟩ := e
  refine ⟨env, M, s, M1, F, κ, e1, t, er, fun F1 κ1 H1 v x1 t1 r => ?_⟩
  obtain ⟨p, kv0, rfl, q1, _, _⟩ := (t1.view r e2).dct0 t1.sub
  refine ⟨p, rfl, .inl ⟨kv0, q1⟩, ?_⟩
  refine ⟨env, M1, s2, M2, F1, κ1, e3, t1, er.ext x1, fun F2 κ2 H2 w x2 t2 rw' => ?_⟩
  refine ⟨env, M2, s3, M3, F2, κ2, e4, t2, (er.ext x1).ext x2, fun F3 κ3 H3 z x3 t3 rz => ?_⟩
  have vd := t3.view ((r.ext x2).ext x3) e5
  have vk := t3.view (rw'.ext x3) e6
  obtain ⟨F4, x4, t4, r4⟩ := t3.frz rz e8
  obtain ⟨p', kvs, hp, q2, en, rs⟩ := (vd.fr x4.sub).dct0 t4.sub
  cases hp
  have hk := keyD_rep vk e7
  subst hk
  exact ⟨valV kvs kk, .inl ⟨kvs, kk, q2, rfl, rfl⟩, k F4 κ3 H3 _ (((x1.trans x2).trans x3).trans x4) t4 (show Rep W.K W.cA F4 _ _ from getD_rep en rs r4)⟩
end
end G
/-! Texts, plain data compared, names: for plain reckoning. -/
namespace G
open PySem L2
theorem lit_toList (s : String) : (Str.ofString s).cps.toList = s.toList.map Char.toNat := by
  rw [Str.ofString_eq_toList]
theorem toNat_inj {a b : Char} (h : a.toNat = b.toNat) : a = b := Char.toNat_inj.mp h
theorem mapNat_inj : ∀ {a b : List Char}, a.map Char.toNat = b.map Char.toNat → a = b
  | [], [], _ => rfl
  | [], _ :: _, h => by simp at h
  | _ :: _, [], h => by simp at h
  | x :: a, y :: b, h => by
    simp only [List.map_cons, List.cons.injEq] at h
    rw [toNat_inj h.1, mapNat_inj h.2]
@[simp] theorem lit_inj (a b : String) : (Str.ofString a = Str.ofString b) = (a = b) := by
  refine propext ⟨fun h => ?_, fun h => by rw [h]⟩
  have h2 : (Str.ofString a).cps.toList = (Str.ofString b).cps.toList := by rw [h]
  rw [lit_toList, lit_toList] at h2
  exact String.toList_inj.mp (mapNat_inj h2)
@[simp] theorem lit_ok (s : String) : PyData.strOk (Str.ofString s) = true := by
  unfold PyData.strOk
  rw [← Array.all_toList, lit_toList, List.all_map, List.all_eq_true]
  intro c _
  have h := c.valid
  simp only [UInt32.isValidChar, Nat.isValidChar] at h
  have : c.toNat = c.val.toNat := rfl
  simp only [Function.comp, decide_eq_true_eq]
  omega
theorem str_ext {a b : Str} (h : a.cps.toList = b.cps.toList) : a = b := by
  cases a with | mk a => cases b with | mk b =>
  congr 1
  exact Array.toList_inj.mp h
theorem str_app (a b : Str) : (a ++ b).cps.toList = a.cps.toList ++ b.cps.toList := by
  show (a.cps ++ b.cps).toList = _
  simp
@[simp] theorem lit_app (a b : String) : Str.ofString a ++ Str.ofString b = Str.ofString (a ++ b) := by
  apply str_ext
  rw [str_app, lit_toList, lit_toList, lit_toList]
  simp
theorem str_len (x : Str) : x.length = x.cps.toList.length := by
  show x.cps.size = _
  simp
/-! ### plain data -/
mutual
def toPy : D → PyData
  | .non => .none
  | .bl b => .bool b
  | .int i => .int i
  | .str x => .str x
  | .tup ds => .tuple (toPys ds)
  | .lst ds => .list (toPys ds)
  | .scr ns => .list (ns.map PyData.int)
  | .dct _ => .none
  | .obj _ _ => .none
def toPys : List D → List PyData
  | [] => []
  | d :: r => toPy d :: toPys r
end
mutual
def okP : D → Bool
  | .non => true
  | .bl _ => true
  | .int _ => true
  | .str x => PyData.strOk x
  | .tup ds => oksP ds
  | .lst ds => oksP ds
  | .scr _ => true
  | .dct _ => false
  | .obj _ _ => false
def oksP : List D → Bool
  | [] => true
  | d :: r => okP d && oksP r
end
@[simp] theorem toPys_nil : toPys [] = [] := id rfl
@[simp] theorem toPys_cons (d : D) (r : List D) : toPys (d :: r) = toPy d :: toPys r := id rfl
@[simp] theorem oksP_nil : oksP [] = true := id rfl
@[simp] theorem oksP_cons (d : D) (r : List D) : oksP (d :: r) = (okP d && oksP r) := id rfl
mutual
theorem py_eq : ∀ d : D, D.py d = if okP d then some (toPy d) else none
  | .non => by simp [D.py, okP, toPy]
  | .bl _ => by simp [D.py, okP, toPy]
  | .int _ => by simp [D.py, okP, toPy]
  | .str x => by
    unfold D.py okP toPy
    split <;> rfl
  | .tup ds => by
    unfold D.py
    rw [pys_eq ds]
    unfold okP toPy
    cases oksP ds <;> simp
  | .lst ds => by
    unfold D.py
    rw [pys_eq ds]
    unfold okP toPy
    cases oksP ds <;> simp
  | .scr _ => by simp [D.py, okP, toPy]
  | .dct _ => by simp [D.py, okP, toPy]
  | .obj _ _ => by simp [D.py, okP, toPy]
theorem pys_eq : ∀ ds : List D, pys ds = if oksP ds then some (toPys ds) else none
  | [] => by simp [pys, oksP, toPys]
  | d :: r => by
    unfold pys
    rw [py_eq d, pys_eq r, oksP_cons, toPys_cons]
    cases okP d <;> cases oksP r <;> rfl
end
@[simp] theorem toPy_non : toPy .non = .none := id rfl
@[simp] theorem toPy_bl (b : Bool) : toPy (.bl b) = .bool b := id rfl
@[simp] theorem toPy_int (b : Int) : toPy (.int b) = .int b := id rfl
@[simp] theorem toPy_str (b : Str) : toPy (.str b) = .str b := id rfl
@[simp] theorem toPy_tup (b : List D) : toPy (.tup b) = .tuple (toPys b) := id rfl
@[simp] theorem toPy_lst (b : List D) : toPy (.lst b) = .list (toPys b) := id rfl
@[simp] theorem okP_non : okP .non = true := id rfl
@[simp] theorem okP_bl (b : Bool) : okP (.bl b) = true := id rfl
@[simp] theorem okP_int (b : Int) : okP (.int b) = true := id rfl
@[simp] theorem okP_str (b : Str) : okP (.str b) = PyData.strOk b := id rfl
@[simp] theorem okP_tup (b : List D) : okP (.tup b) = oksP b := id rfl
@[simp] theorem okP_lst (b : List D) : okP (.lst b) = oksP b := id rfl
@[simp] theorem okP_obj (c : Str) (gs : List (Str × D)) : okP (.obj c gs) = false := id rfl
@[simp] theorem okP_dct (gs : List (Key × D)) : okP (.dct gs) = false := id rfl
@[simp] theorem oksP_app : ∀ (a b : List D), oksP (a ++ b) = (oksP a && oksP b)
  | [], b => by simp
  | x :: a, b => by simp [oksP_app a b, Bool.and_assoc]
@[simp] theorem toPys_app : ∀ (a b : List D), toPys (a ++ b) = toPys a ++ toPys b
  | [], b => by simp
  | x :: a, b => by simp [toPys_app a b]
theorem oksP_all : ∀ a : List D, oksP a = a.all okP
  | [] => rfl
  | x :: a => by simp [oksP_all a]
theorem toPys_map : ∀ a : List D, toPys a = a.map toPy
  | [] => rfl
  | x :: a => by simp [toPys_map a]
/-- how deep: over the pictures -/
abbrev dpL (ds : List D) : Nat := PyData.depthAll (toPys ds)
@[simp] theorem dpA_nil : PyData.depthAll [] = 0 := by unfold PyData.depthAll; rfl
@[simp] theorem dpA_cons (x : PyData) (r : List PyData) : PyData.depthAll (x :: r) = max x.depth (PyData.depthAll r) := by conv => lhs; unfold PyData.depthAll
@[simp] theorem dp_int (i : Int) : (PyData.int i).depth = 0 := by unfold PyData.depth; rfl
@[simp] theorem dp_str (i : Str) : (PyData.str i).depth = 0 := by unfold PyData.depth; rfl
@[simp] theorem dp_bool (i : Bool) : (PyData.bool i).depth = 0 := by unfold PyData.depth; rfl
@[simp] theorem dp_none : (PyData.none).depth = 0 := by unfold PyData.depth; rfl
@[simp] theorem dp_tuple (i : List PyData) : (PyData.tuple i).depth = PyData.depthAll i + 1 := by conv => lhs; unfold PyData.depth
@[simp] theorem dp_list (i : List PyData) : (PyData.list i).depth = PyData.depthAll i + 1 := by conv => lhs; unfold PyData.depth
theorem dpA_le {k : Nat} : ∀ {xs : List PyData}, (∀ x ∈ xs, x.depth ≤ k) → PyData.depthAll xs ≤ k
  | [], _ => by simp
  | x :: xs, h => by
    rw [dpA_cons]
    have h1 := h x (by simp)
    have h2 := dpA_le (k := k) (xs := xs) fun y hy => h y (List.mem_cons_of_mem _ hy)
    omega
@[simp] theorem eqv_int (i j : Int) : PyData.eqv (.int i) (.int j) = decide (i = j) := by unfold PyData.eqv; by_cases h : i = j <;> simp [h]
@[simp] theorem eqv_str (i j : Str) : PyData.eqv (.str i) (.str j) = decide (i = j) := by unfold PyData.eqv; by_cases h : i = j <;> simp [h]
@[simp] theorem eqv_bool (i j : Bool) : PyData.eqv (.bool i) (.bool j) = (i == j) := by unfold PyData.eqv; rfl
@[simp] theorem eqv_none : PyData.eqv .none .none = true := by unfold PyData.eqv; rfl
@[simp] theorem eqv_non_int (i : Int) : PyData.eqv .none (.int i) = false := by unfold PyData.eqv; rfl
@[simp] theorem eqv_int_non (i : Int) : PyData.eqv (.int i) .none = false := by unfold PyData.eqv; rfl
@[simp] theorem eqv_non_str (i : Str) : PyData.eqv .none (.str i) = false := by unfold PyData.eqv; rfl
@[simp] theorem eqv_str_non (i : Str) : PyData.eqv (.str i) .none = false := by unfold PyData.eqv; rfl
@[simp] theorem eqv_int_str (i : Int) (j : Str) : PyData.eqv (.int i) (.str j) = false := by unfold PyData.eqv; rfl
@[simp] theorem eqv_str_int (i : Int) (j : Str) : PyData.eqv (.str j) (.int i) = false := by unfold PyData.eqv; rfl
@[simp] theorem eqv_non_tup (i : List PyData) : PyData.eqv .none (.tuple i) = false := by unfold PyData.eqv; rfl
@[simp] theorem eqv_tup_non (i : List PyData) : PyData.eqv (.tuple i) .none = false := by unfold PyData.eqv; rfl
@[simp] theorem eqv_tuple (i j : List PyData) : PyData.eqv (.tuple i) (.tuple j) = PyData.eqvAll i j := by conv => lhs; unfold PyData.eqv
@[simp] theorem eqv_list (i j : List PyData) : PyData.eqv (.list i) (.list j) = PyData.eqvAll i j := by conv => lhs; unfold PyData.eqv
@[simp] theorem eqv_tl (i j : List PyData) : PyData.eqv (.tuple i) (.list j) = false := by conv => lhs; unfold PyData.eqv
@[simp] theorem eqv_lt (i j : List PyData) : PyData.eqv (.list i) (.tuple j) = false := by conv => lhs; unfold PyData.eqv
@[simp] theorem eqvA_nn : PyData.eqvAll [] [] = true := by unfold PyData.eqvAll; rfl
@[simp] theorem eqvA_nc (x : PyData) (r : List PyData) : PyData.eqvAll [] (x :: r) = false := by unfold PyData.eqvAll; rfl
@[simp] theorem eqvA_cn (x : PyData) (r : List PyData) : PyData.eqvAll (x :: r) [] = false := by unfold PyData.eqvAll; rfl
@[simp] theorem eqvA_cc (x y : PyData) (r s : List PyData) : PyData.eqvAll (x :: r) (y :: s) = (PyData.eqv x y && PyData.eqvAll r s) := by conv => lhs; unfold PyData.eqvAll
theorem eqvA_map {α : Type} [DecidableEq α] (f : α → D) (h : ∀ a b, PyData.eqv (toPy (f a)) (toPy (f b)) = decide (a = b)) : ∀ xs ys : List α, PyData.eqvAll (toPys (xs.map f)) (toPys (ys.map f)) = decide (xs = ys)
  | [], [] => by simp
  | [], _ :: _ => by simp
  | _ :: _, [] => by simp
  | x :: xs, y :: ys => by
    simp only [List.map_cons, toPys_cons, eqvA_cc, h, eqvA_map f h xs ys, List.cons.injEq]
    by_cases h1 : x = y <;> by_cases h2 : xs = ys <;> simp [h1, h2]
@[simp] theorem eqvA_strs (xs ys : List Str) : PyData.eqvAll (toPys (xs.map D.str)) (toPys (ys.map D.str)) = decide (xs = ys) := eqvA_map D.str (fun a b => by simp) xs ys
@[simp] theorem eqvA_ints (xs ys : List Int) : PyData.eqvAll (toPys (xs.map D.int)) (toPys (ys.map D.int)) = decide (xs = ys) := eqvA_map D.int (fun a b => by simp) xs ys
@[simp] theorem oks_strs : ∀ (xs : List Str), oksP (xs.map D.str) = xs.all PyData.strOk
  | [] => rfl
  | x :: xs => by simp [oks_strs xs]
@[simp] theorem oks_ints : ∀ (xs : List Int), oksP (xs.map D.int) = true
  | [] => rfl
  | x :: xs => by simp [oks_ints xs]
@[simp] theorem dp_strs : ∀ (xs : List Str), PyData.depthAll (toPys (xs.map D.str)) = 0
  | [] => by simp
  | x :: xs => by simp [dp_strs xs]
@[simp] theorem dp_ints : ∀ (xs : List Int), PyData.depthAll (toPys (xs.map D.int)) = 0
  | [] => by simp
  | x :: xs => by simp [dp_ints xs]
theorem eqP_eq (x y : D) : eqP x y = if okP x = true ∧ okP y = true ∧ (toPy x).depth ≤ 64 ∧ (toPy y).depth ≤ 64 then some (PyData.eqv (toPy x) (toPy y)) else none := by
  unfold eqP
  rw [py_eq, py_eq]
  cases okP x <;> cases okP y <;> simp
def eqSeq (xs ys : List D) : Option Bool := if oksP xs = true ∧ oksP ys = true ∧ PyData.depthAll (toPys xs) ≤ 63 ∧ PyData.depthAll (toPys ys) ≤ 63 then some (PyData.eqvAll (toPys xs) (toPys ys)) else none
@[simp] theorem r_eqSeq (xs ys : List D) : eqSeq xs ys = if oksP xs = true ∧ oksP ys = true ∧ PyData.depthAll (toPys xs) ≤ 63 ∧ PyData.depthAll (toPys ys) ≤ 63 then some (PyData.eqvAll (toPys xs) (toPys ys)) else none := id rfl
theorem eqD_tup (xs ys : List D) : eqD (.tup xs) (.tup ys) = eqSeq xs ys := by
  show eqP (.tup xs) (.tup ys) = _
  rw [eqP_eq]
  unfold eqSeq
  simp
theorem eqD_lst (xs ys : List D) : eqD (.lst xs) (.lst ys) = eqSeq xs ys := by
  show eqP (.lst xs) (.lst ys) = _
  rw [eqP_eq]
  unfold eqSeq
  simp
def obl (o : Option Bool) : Option D := match o with
  | some b => some (.bl b)
  | none => none
def obln (o : Option Bool) : Option D := match o with
  | some b => some (.bl (!b))
  | none => none
@[simp] theorem obl_s (b : Bool) : obl (some b) = some (.bl b) := id rfl
@[simp] theorem obl_n : obl none = none := id rfl
@[simp] theorem obln_s (b : Bool) : obln (some b) = some (.bl (!b)) := id rfl
@[simp] theorem obln_n : obln none = none := id rfl
@[simp] theorem r_gEqT (xs ys : List D) : gEq (.tup xs) (.tup ys) = obl (eqSeq xs ys) := by unfold gEq; rw [eqD_tup]; rfl
@[simp] theorem r_gNeT (xs ys : List D) : gNe (.tup xs) (.tup ys) = obln (eqSeq xs ys) := by unfold gNe; rw [eqD_tup]; rfl
@[simp] theorem r_gEqL (xs ys : List D) : gEq (.lst xs) (.lst ys) = obl (eqSeq xs ys) := by unfold gEq; rw [eqD_lst]; rfl
@[simp] theorem r_gNeL (xs ys : List D) : gNe (.lst xs) (.lst ys) = obln (eqSeq xs ys) := by unfold gNe; rw [eqD_lst]; rfl
@[simp] theorem r_gEqB (a b : Bool) : gEq (.bl a) (.bl b) = some (.bl (a == b)) := id rfl
@[simp] theorem r_gNeB (a b : Bool) : gNe (.bl a) (.bl b) = some (.bl (!(a == b))) := id rfl
@[simp] theorem r_gEqNN : gEq .non .non = some (.bl true) := id rfl
@[simp] theorem r_gEqNI (i : Int) : gEq .non (.int i) = some (.bl false) := id rfl
@[simp] theorem r_gEqIN (i : Int) : gEq (.int i) .non = some (.bl false) := id rfl
@[simp] theorem r_gNeNN : gNe .non .non = some (.bl false) := id rfl
@[simp] theorem r_gNeNI (i : Int) : gNe .non (.int i) = some (.bl true) := id rfl
@[simp] theorem r_gNeIN (i : Int) : gNe (.int i) .non = some (.bl true) := id rfl
def inSeq (x : D) (ds : List D) : Option Bool := if okP x = true ∧ oksP ds = true ∧ (toPy x).depth ≤ 64 then some (ds.any fun z => PyData.eqv (toPy z) (toPy x)) else none
theorem inP_eq (x : D) (ds : List D) : inP x ds = inSeq x ds := by
  unfold inP inSeq
  rw [py_eq, pys_eq]
  cases okP x <;> cases oksP ds <;> simp [toPys_map]
  rfl
@[simp] theorem r_inSeq (x : D) (ds : List D) : inSeq x ds = if okP x = true ∧ oksP ds = true ∧ (toPy x).depth ≤ 64 then some (ds.any fun z => PyData.eqv (toPy z) (toPy x)) else none := id rfl
theorem inD_tup (x : D) (ds : List D) : inD x (.tup ds) = inSeq x ds := by rw [← inP_eq]; cases x <;> rfl
theorem inD_lst (x : D) (ds : List D) : inD x (.lst ds) = inSeq x ds := by rw [← inP_eq]; cases x <;> rfl
@[simp] theorem r_gInT (x : D) (ds : List D) : gIn x (.tup ds) = obl (inSeq x ds) := by unfold gIn; rw [inD_tup]; rfl
@[simp] theorem r_gInL (x : D) (ds : List D) : gIn x (.lst ds) = obl (inSeq x ds) := by unfold gIn; rw [inD_lst]; rfl
@[simp] theorem r_gNotInT (x : D) (ds : List D) : gNotIn x (.tup ds) = obln (inSeq x ds) := by unfold gNotIn; rw [inD_tup]; rfl
@[simp] theorem r_gNotInL (x : D) (ds : List D) : gNotIn x (.lst ds) = obln (inSeq x ds) := by unfold gNotIn; rw [inD_lst]; rfl
@[simp] theorem r_gIn1 (c : Nat) (y : Str) : gIn (.str ⟨#[c]⟩) (.str y) = some (.bl (decide (c ∈ y.cps.toList))) := id rfl
@[simp] theorem r_gNotIn1 (c : Nat) (y : Str) : gNotIn (.str ⟨#[c]⟩) (.str y) = some (.bl (!decide (c ∈ y.cps.toList))) := id rfl
theorem any_strs (x : Str) : ∀ ys : List Str, ((ys.map D.str).any fun z => PyData.eqv (toPy z) (.str x)) = decide (x ∈ ys)
  | [] => by simp
  | y :: ys => by
    simp only [List.map_cons, List.any_cons, any_strs x ys, toPy_str, eqv_str, List.mem_cons]
    by_cases h1 : y = x <;> by_cases h2 : x ∈ ys <;> simp [h1, h2]
    intro h; exact h1 h.symm
theorem any_ints (x : Int) : ∀ ys : List Int, ((ys.map D.int).any fun z => PyData.eqv (toPy z) (.int x)) = decide (x ∈ ys)
  | [] => by simp
  | y :: ys => by
    simp only [List.map_cons, List.any_cons, any_ints x ys, toPy_int, eqv_int, List.mem_cons]
    by_cases h1 : y = x <;> by_cases h2 : x ∈ ys <;> simp [h1, h2]
    intro h; exact h1 h.symm
theorem in_strs {x : Str} {ys : List Str} (h1 : PyData.strOk x = true) (h2 : ys.all PyData.strOk = true) : inSeq (.str x) (ys.map D.str) = some (decide (x ∈ ys)) := by
  simp only [r_inSeq, okP_str, h1, oks_strs, h2, toPy_str, dp_str, any_strs]
  simp
theorem in_ints {x : Int} {ys : List Int} : inSeq (.int x) (ys.map D.int) = some (decide (x ∈ ys)) := by
  simp only [r_inSeq, okP_int, oks_ints, toPy_int, dp_int, any_ints]
  simp
/-! ### texts -/
@[simp] theorem r_walkStr (z : Str) : walkOf (.str z) = some (z.cps.toList.map fun c => .str ⟨#[c]⟩) := id rfl
@[simp] theorem r_walkLst (z : List D) : walkOf (.lst z) = some z := id rfl
@[simp] theorem r_walkTup (z : List D) : walkOf (.tup z) = some z := id rfl
@[simp] theorem r_gLenS (x : Str) : gLen [.str x] = if x.length ≤ sizeLine then some (.int x.length) else none := id rfl
@[simp] theorem r_idxS (z : Str) (i : Int) : dIdx (.str z) (.int i) = if z.length ≤ sizeLine then (atI z.cps.toList i).map fun c => .str ⟨#[c]⟩ else none := id rfl
@[simp] theorem r_gAddS (x y : Str) : gAdd (.str x) (.str y) = if x.length + y.length ≤ sizeLine then some (.str (x ++ y)) else none := id rfl
@[simp] theorem r_gAddL (x y : List D) : gAdd (.lst x) (.lst y) = if x.length + y.length ≤ sizeLine then some (.lst (x ++ y)) else none := id rfl
@[simp] theorem r_gAddT (x y : List D) : gAdd (.tup x) (.tup y) = if x.length + y.length ≤ sizeLine then some (.tup (x ++ y)) else none := id rfl
def smallC (c : Nat) : Bool := decide (97 ≤ c ∧ c ≤ 122)
def signC (c : Nat) : Bool := decide (97 ≤ c ∧ c ≤ 122) || decide (48 ≤ c ∧ c ≤ 57)
def SMALLs : Str := "abcdefghijklmnopqrstuvwxyz"
def SIGNs : Str := "abcdefghijklmnopqrstuvwxyz0123456789"
theorem small_mem (c : Nat) : decide (c ∈ (Str.ofString "abcdefghijklmnopqrstuvwxyz").cps.toList) = smallC c := by
  rw [lit_toList]
  simp only [smallC, decide_eq_decide]
  simp
  omega
theorem sign_mem (c : Nat) : decide (c ∈ (Str.ofString "abcdefghijklmnopqrstuvwxyz0123456789").cps.toList) = signC c := by
  rw [lit_toList]
  unfold signC
  rw [← Bool.decide_or, decide_eq_decide]
  simp
  omega
/-- a name -/
def nameOk (x : Str) : Bool := match x.cps.toList with
  | [] => false
  | c :: r => decide (r.length ≤ 7) && smallC c && (c :: r).all signC
theorem nameOk_ok {x : Str} (h : nameOk x = true) : PyData.strOk x = true := by
  unfold nameOk at h
  unfold PyData.strOk
  rw [← Array.all_toList]
  split at h
  · cases h
  · rename_i c r e
    rw [e, List.all_eq_true]
    simp only [Bool.and_eq_true, List.all_eq_true] at h
    intro z hz
    have := h.2 z hz
    unfold signC at this
    simp only [Bool.or_eq_true, decide_eq_true_eq] at this ⊢
    omega
theorem gAll_bls (bs : List Bool) : gAll [.lst (bs.map D.bl)] = some (.bl (bs.all id)) := by
  have h : ∀ bs : List Bool, blsD (bs.map D.bl) = some bs := fun bs => by
    induction bs with
    | nil => rfl
    | cons b bs ih => simp [blsD, ih]
  unfold gAll gOfBls
  show (match blsD (bs.map D.bl) with | some bs => some (D.bl (bs.all id)) | none => none) = _
  rw [h]
theorem gAny_bls (bs : List Bool) : gAny [.lst (bs.map D.bl)] = some (.bl (bs.any id)) := by
  have h : ∀ bs : List Bool, blsD (bs.map D.bl) = some bs := fun bs => by
    induction bs with
    | nil => rfl
    | cons b bs ih => simp [blsD, ih]
  unfold gAny gOfBls
  show (match blsD (bs.map D.bl) with | some bs => some (D.bl (bs.any id)) | none => none) = _
  rw [h]
@[simp] theorem lk_cons (a b : String) (d : D) (r : List (Str × D)) : List.lookup (Str.ofString a) ((Str.ofString b, d) :: r) = if a = b then some d else List.lookup (Str.ofString a) r := by
  rw [List.lookup_cons]
  by_cases h : a = b
  · subst h; simp
  · have : ¬ Str.ofString a = Str.ofString b := by rw [lit_inj]; exact h
    have hb : (Str.ofString a == Str.ofString b) = false := by simpa using h
    rw [hb]; simp [h]
@[simp] theorem lk_nil (a : Str) : List.lookup a ([] : List (Str × D)) = none := id rfl
theorem two_line : (2 : Nat) ≤ sizeLine := by rw [sizeLine_eq]; omega
end G
/-! Stepping through a body: one rule a statement. -/
namespace G
open PySem L2
section
variable {env e1 e2 : Ev} {M M1 M2 : Ms} {fa fb fc : EF} {ga : AF} {f rest body : SF} {c t u : TF} {g : GF} {fi : IF} {Q : Option Out → Prop} {α : Type} {np nN : Nat} {ss : List S} {d : D}
/-- a return; an end -/
def isR (s : S) (M' : Ms) (o : Option Out) : Prop := o = some (.rt s M')
def isE (M' : Ms) (o : Option Out) : Prop := ∃ e L, o = some (.nx e (M' ++ L))
theorem isE_of {M' : Ms} {e : Ev} {o : Option Out} (h : o = some (.nx e M')) : isE M' o := ⟨e, [], by rw [h, List.append_nil]⟩
theorem isE_app {M' L : Ms} {e : Ev} {o : Option Out} (h : o = some (.nx e (M' ++ L))) : isE M' o := ⟨e, L, h⟩
/-- a return of a tree, whatever is left behind -/
def isX (d : D) (M' : Ms) (o : Option Out) : Prop := ∃ L, o = some (.rt (.d d) (M' ++ L))
theorem isX_of {d : D} {M' : Ms} {o : Option Out} (h : o = some (.rt (.d d) M')) : isX d M' o := ⟨[], by rw [h, List.append_nil]⟩
theorem isX_app {d : D} {M' L : Ms} {o : Option Out} (h : o = some (.rt (.d d) (M' ++ L))) : isX d M' o := ⟨L, h⟩
theorem fn_x {M' : Ms} (hl : ss.length = np) (hm : M'.length = M.length) (h : isX d M' (body (env0 nN ss) M)) : fnD np nN body ss M = some (.d d, M') := by
  obtain ⟨L, h⟩ := h
  rw [r_fnD, if_pos hl, h]
  simp [← hm]
theorem fn_rt (hl : ss.length = np) (h : isR (.d d) M (body (env0 nN ss) M)) : fnD np nN body ss M = some (.d d, M) := by
  rw [r_fnD, if_pos hl, h]
  simp
theorem fn_rtA {L : Ms} (hl : ss.length = np) (h : isR (.d d) (M ++ L) (body (env0 nN ss) M)) : fnD np nN body ss M = some (.d d, M) := by
  rw [r_fnD, if_pos hl, h]
  simp
theorem fn_rtM {L M' : Ms} (hl : ss.length = np) (hm : M'.length = M.length) (h : isR (.d d) (M' ++ L) (body (env0 nN ss) M)) : fnD np nN body ss M = some (.d d, M') := by
  rw [r_fnD, if_pos hl, h]
  simp [← hm]
/-- what is given is a cell -/
theorem fn_rtH {L : Ms} {k : Nat} {c : Cell} (hl : ss.length = np) (hk : (M ++ L)[k]? = some c) (hM : M.length ≤ k) (h : isR (.hd k) (M ++ L) (body (env0 nN ss) M)) : fnD np nN body ss M = some (.d c.toD, M) := by
  rw [r_fnD, if_pos hl, h]
  simp only [r_frz_h, hk]
  have : M.length ≤ (List.set (M ++ L) k (Cell.frz c.toD)).length := by simp
  rw [if_pos this, List.set_append_right _ _ hM]
  simp
theorem fn_nx {M' : Ms} (hl : ss.length = np) (hm : M'.length = M.length) (h : isE M' (body (env0 nN ss) M)) : fnD np nN body ss M = some (.d .non, M') := by
  obtain ⟨e, L, h⟩ := h
  rw [r_fnD, if_pos hl, h]
  simp [← hm]
theorem seq_nx (h : f env M = some (.nx e1 M1)) (hr : Q (rest e1 M1)) : Q (sSeq f rest env M) := by
  rw [r_sSeq, h]; exact hr
theorem seq_rt {s : S} (h : isR s M1 (f env M)) : isR s M1 (sSeq f rest env M) := by
  unfold isR at h ⊢
  rw [r_sSeq, h]
theorem if_t (hc : c env M = some (true, M1)) (h : Q (f env M1)) : Q (sIf c f rest env M) := by
  rw [r_sIf, hc]; exact h
theorem if_f (hc : c env M = some (false, M1)) (h : Q (rest env M1)) : Q (sIf c f rest env M) := by
  rw [r_sIf, hc]; exact h
def turn (g : GF) (body : SF) (d : D) : SF := fun env M => match g (.d d) env M with
  | some (e1, M1) => body e1 M1
  | none => none
@[simp] theorem r_turn (g : GF) (body : SF) (d : D) : turn g body d env M = match g (.d d) env M with
  | some (e1, M1) => body e1 M1
  | none => none := id rfl
theorem forD_cons (d : D) (ds : List D) : forD g body (d :: ds) env M = match turn g body d env M with
  | some (.nx e2 M2) => forD g body ds e2 M2
  | some (.ct e2 M2) => forD g body ds e2 M2
  | some (.bk e2 M2) => some (.nx e2 M2)
  | some (.rt s M2) => some (.rt s M2)
  | none => none := by
  conv => lhs; unfold forD
  unfold turn
  cases g (.d d) env M with
  | none => rfl
  | some p => rfl
theorem forD_nil : forD g body [] env M = some (.nx env M) := by unfold forD; rfl
theorem for_P (din : α → D) : ∀ (xs : List α) (P : Nat → Ev → Ms → Prop) (env : Ev) (M : Ms), P 0 env M → (∀ i x env M, xs[i]? = some x → P i env M → ∃ e2 M2, (turn g body (din x) env M = some (.nx e2 M2) ∨ turn g body (din x) env M = some (.ct e2 M2)) ∧ P (i + 1) e2 M2) →
    ∃ e2 M2, forD g body (xs.map din) env M = some (.nx e2 M2) ∧ P xs.length e2 M2
  | [], P, env, M, h0, _ => ⟨env, M, forD_nil, h0⟩
  | x :: xs, P, env, M, h0, hs => by
    obtain ⟨e2, M2, k1, k2⟩ := hs 0 x env M rfl h0
    obtain ⟨e3, M3, h1, h2⟩ := for_P din xs (fun i => P (i + 1)) e2 M2 k2 fun i x env M hi h => hs (i + 1) x env M (by simpa using hi) h
    refine ⟨e3, M3, ?_, h2⟩
    rw [List.map_cons, forD_cons]
    rcases k1 with k1 | k1 <;> simp only [k1, h1]
/-- .. by a return at the k-th -/
theorem for_PR (din : α → D) {s : S} {Mr : Ms} : ∀ (xs : List α) (k : Nat) (P : Nat → Ev → Ms → Prop) (env : Ev) (M : Ms), k < xs.length → P 0 env M → (∀ i x env M, i < k → xs[i]? = some x → P i env M → ∃ e2 M2, (turn g body (din x) env M = some (.nx e2 M2) ∨ turn g body (din x) env M = some (.ct e2 M2)) ∧ P (i + 1) e2 M2) →
    (∀ x env M, xs[k]? = some x → P k env M → turn g body (din x) env M = some (.rt s Mr)) → forD g body (xs.map din) env M = some (.rt s Mr)
  | [], k, P, env, M, hk, _, _, _ => by simp at hk
  | x :: xs, 0, P, env, M, hk, h0, hs, hr => by
    rw [List.map_cons, forD_cons, hr x env M rfl h0]
  | x :: xs, k + 1, P, env, M, hk, h0, hs, hr => by
    obtain ⟨e2, M2, k1, k2⟩ := hs 0 x env M (by omega) rfl h0
    have ih := for_PR din xs k (fun i => P (i + 1)) e2 M2 (by simpa using hk) k2 (fun i x env M hi hx h => hs (i + 1) x env M (by omega) (by simpa using hx) h) fun x env M hx h => hr x env M (by simpa using hx) h
    rw [List.map_cons, forD_cons]
    rcases k1 with k1 | k1 <;> simp only [k1, ih]
theorem seq_forP (xs : List α) (din : α → D) (P : Nat → Ev → Ms → Prop) (hi : fi env M = some (xs.map din, M1)) (h0 : P 0 env M1) (hs : ∀ i x env M, xs[i]? = some x → P i env M → ∃ e2 M2, (turn g body (din x) env M = some (.nx e2 M2) ∨ turn g body (din x) env M = some (.ct e2 M2)) ∧ P (i + 1) e2 M2)
    (hr : ∀ e M, P xs.length e M → Q (rest e M)) : Q (sSeq (sFor fi g body) rest env M) := by
  obtain ⟨e2, M2, k1, k2⟩ := for_P (g := g) (body := body) din xs P env M1 h0 hs
  refine seq_nx ?_ (hr e2 M2 k2)
  rw [r_sFor, hi]
  exact k1
theorem seq_forPR (xs : List α) (din : α → D) (P : Nat → Ev → Ms → Prop) {s : S} {Mr : Ms} (k : Nat) (hk : k < xs.length) (hi : fi env M = some (xs.map din, M1)) (h0 : P 0 env M1) (hs : ∀ i x env M, i < k → xs[i]? = some x → P i env M → ∃ e2 M2, (turn g body (din x) env M = some (.nx e2 M2) ∨ turn g body (din x) env M = some (.ct e2 M2)) ∧ P (i + 1) e2 M2)
    (hr : ∀ x env M, xs[k]? = some x → P k env M → turn g body (din x) env M = some (.rt s Mr)) : isR s Mr (sSeq (sFor fi g body) rest env M) := by
  refine seq_rt ?_
  unfold isR
  rw [r_sFor, hi]
  exact for_PR din xs k P env M1 hk h0 hs hr
/-- states by turns; slots of no account: z, w -/
theorem seq_for1 (xs : List α) (din : α → D) (E : Nat → Option S → Ev) (Mf : Nat → Ms) (z : Option S) (hi : fi env M = some (xs.map din, M1)) (hE : env = E 0 z) (hM : M1 = Mf 0)
    (hs : ∀ i x z, xs[i]? = some x → ∃ z', turn g body (din x) (E i z) (Mf i) = some (.nx (E (i + 1) z') (Mf (i + 1))))
    (hr : ∀ z, Q (rest (E xs.length z) (Mf xs.length))) : Q (sSeq (sFor fi g body) rest env M) := by
  subst hE hM
  refine seq_forP xs din (fun i e M => ∃ z, e = E i z ∧ M = Mf i) hi ⟨z, rfl, rfl⟩ ?_ ?_
  · rintro i x _ _ hx ⟨z, rfl, rfl⟩
    obtain ⟨z', h⟩ := hs i x z hx
    exact ⟨_, _, .inl h, z', rfl, rfl⟩
  · rintro _ _ ⟨z, rfl, rfl⟩
    exact hr z
theorem seq_for2 (xs : List α) (din : α → D) (E : Nat → Option S → Option S → Ev) (Mf : Nat → Ms) (z w : Option S) (hi : fi env M = some (xs.map din, M1)) (hE : env = E 0 z w) (hM : M1 = Mf 0)
    (hs : ∀ i x z w, xs[i]? = some x → ∃ z' w', turn g body (din x) (E i z w) (Mf i) = some (.nx (E (i + 1) z' w') (Mf (i + 1))))
    (hr : ∀ z w, Q (rest (E xs.length z w) (Mf xs.length))) : Q (sSeq (sFor fi g body) rest env M) := by
  subst hE hM
  refine seq_forP xs din (fun i e M => ∃ z w, e = E i z w ∧ M = Mf i) hi ⟨z, w, rfl, rfl⟩ ?_ ?_
  · rintro i x _ _ hx ⟨z, w, rfl, rfl⟩
    obtain ⟨z', w', h⟩ := hs i x z w hx
    exact ⟨_, _, .inl h, z', w', rfl, rfl⟩
  · rintro _ _ ⟨z, w, rfl, rfl⟩
    exact hr z w
theorem seq_for3 (xs : List α) (din : α → D) (E : Nat → Option S → Option S → Option S → Ev) (Mf : Nat → Ms) (z w u : Option S) (hi : fi env M = some (xs.map din, M1)) (hE : env = E 0 z w u) (hM : M1 = Mf 0)
    (hs : ∀ i x z w u, xs[i]? = some x → ∃ z' w' u', turn g body (din x) (E i z w u) (Mf i) = some (.nx (E (i + 1) z' w' u') (Mf (i + 1))))
    (hr : ∀ z w u, Q (rest (E xs.length z w u) (Mf xs.length))) : Q (sSeq (sFor fi g body) rest env M) := by
  subst hE hM
  refine seq_forP xs din (fun i e M => ∃ z w u, e = E i z w u ∧ M = Mf i) hi ⟨z, w, u, rfl, rfl⟩ ?_ ?_
  · rintro i x _ _ hx ⟨z, w, u, rfl, rfl⟩
    obtain ⟨z', w', u', h⟩ := hs i x z w u hx
    exact ⟨_, _, .inl h, z', w', u', rfl, rfl⟩
  · rintro _ _ ⟨z, w, u, rfl, rfl⟩
    exact hr z w u
end
theorem enum_get {ds : List D} {i : Nat} {d : D} (h : (enumD ds)[i]? = some d) : ∃ x, ds[i]? = some x ∧ d = .tup [.int (i : Nat), x] := by
  unfold enumD at h
  rw [List.getElem?_zipWith] at h
  cases e : ds[i]? with
  | none => rw [e] at h; simp at h
  | some x =>
    have hi : i < ds.length := (List.getElem?_eq_some_iff.mp e).1
    rw [e, List.getElem?_range hi] at h
    exact ⟨x, rfl, by simpa using h.symm⟩
theorem enum_len (ds : List D) : (enumD ds).length = ds.length := by unfold enumD; simp
/-- enumerate over pictures -/
theorem enum_map {α : Type} (xs : List α) (f : α → D) : enumD (xs.map f) = ((List.range xs.length).zip xs).map fun p => .tup [.int ((p.1 : Nat) : Int), f p.2] := by
  unfold enumD
  rw [List.length_map, List.zipWith_map_right, List.zip, List.map_zipWith]
theorem zip_get {α : Type} {xs : List α} {i : Nat} {p : Nat × α} (h : ((List.range xs.length).zip xs)[i]? = some p) : p.1 = i ∧ xs[i]? = some p.2 := by
  rw [List.zip, List.getElem?_zipWith] at h
  cases e : xs[i]? with
  | none => rw [e] at h; simp at h
  | some x =>
    have hi : i < xs.length := (List.getElem?_eq_some_iff.mp e).1
    rw [e, List.getElem?_range hi] at h
    simp at h
    subst h
    exact ⟨rfl, rfl⟩
theorem cut_take {ds : List D} {i : Nat} : cutD ds none (some (i : Nat)) = ds.take i := by
  have h0 : ¬ ((i : Nat) : Int) < 0 := by omega
  unfold cutD HT.sIx
  simp [h0]
theorem cut_drop {ds : List D} {i : Nat} : cutD ds (some (i : Nat)) none = ds.drop i := by
  have h0 : ¬ ((i : Nat) : Int) < 0 := by omega
  unfold cutD HT.sIx
  simp [h0]
  by_cases h : i ≤ ds.length
  · rw [Nat.min_eq_left h, List.take_of_length_le (by simp)]
  · rw [Nat.min_eq_right (by omega)]
    simp
    omega
theorem gAtI_last {α : Type} (xs : List α) (x : α) : atI (xs ++ [x]) (-1) = some x := by
  have h1 : (1 : Int) ≤ (xs.length : Int) + 1 := by omega
  have h2 : (-1 + ((xs.length : Int) + 1)).toNat = xs.length := by omega
  unfold atI ixN
  simp [h1, h2]
theorem gIndex_eq (ds : List D) (y : D) : gIndex (.lst ds) y = if oksP ds = true ∧ okP y = true ∧ PyData.depthAll (toPys ds) ≤ 63 ∧ (toPy y).depth ≤ 64 then (firstIx (fun z => PyData.eqv z (toPy y)) (toPys ds)).map fun j => .int (j : Nat) else none := by
  have e : gIndex (.lst ds) y = match pys ds with
    | some xs => match D.py y with
      | some d => if (PyData.list xs).depth ≤ 64 ∧ d.depth ≤ 64 then (firstIx (fun z => PyData.eqv z d) xs).map fun j => .int (j : Nat) else none
      | none => none
    | none => none := rfl
  rw [e, pys_eq, py_eq]
  cases oksP ds <;> cases okP y <;> simp
theorem firstIx_strs (x : Str) : ∀ {ys : List Str}, x ∈ ys → firstIx (fun z => PyData.eqv z (.str x)) (toPys (ys.map .str)) = some (ys.idxOf x)
  | [], h => by simp at h
  | y :: ys, h => by
    by_cases e : y = x
    · subst e
      simp [firstIx]
    · have h' : x ∈ ys := by
        rcases List.mem_cons.mp h with rfl | h
        · exact absurd rfl e
        · exact h
      have ih := firstIx_strs x h'
      simp only [List.map_cons, toPys_cons, toPy_str, firstIx, eqv_str, e, decide_false, Bool.false_eq_true, if_false, ih]
      rw [List.idxOf_cons, show (y == x) = false by simpa using e]
      simp
theorem gIndex_strs {x : Str} {ys : List Str} (h : x ∈ ys) (hx : PyData.strOk x = true) (hy : ys.all PyData.strOk = true) : gIndex (.lst (ys.map .str)) (.str x) = some (.int (ys.idxOf x : Nat)) := by
  rw [gIndex_eq]
  simp only [oks_strs, hy, okP_str, hx, toPy_str, dp_strs, dp_str]
  rw [firstIx_strs x h]
  simp
@[simp] theorem take_app1 {α : Type} (M : List α) (a : α) (r : List α) : List.take (M.length + 1) (M ++ a :: r) = M ++ [a] := by
  rw [List.take_append, List.take_of_length_le (by omega)]
  have : M.length + 1 - M.length = 1 := by omega
  rw [this]; rfl
@[simp] theorem take_app2 {α : Type} (M : List α) (a b : α) (r : List α) : List.take (M.length + 2) (M ++ a :: b :: r) = M ++ [a, b] := by
  rw [List.take_append, List.take_of_length_le (by omega)]
  have : M.length + 2 - M.length = 2 := by omega
  rw [this]; rfl
end G
namespace K66
open PySem L2 G
abbrev top (i : Nat) : Stmt := PySem.Challenge.pw_goodsbypapers_k66_failing_hands_counted.main.body.getD i (.Pass ⟨0, 0, 0, 0⟩)
def cs : List Str := ["Paid", "Bears", "Draft"]
def fa : List Fx := [.free "range",
  .free "enumerate",
  .free "len",
  .free "isinstance",
  .free "tuple",
  .free "list",
  .free "all",
  .tree "SMALL" (.str "abcdefghijklmnopqrstuvwxyz"),
  .tree "FIGURES" (.str "0123456789"),
  .free "str",
  .cls "Draft",
  .free "dict",
  .free "bool",
  .free "int",
  .cls "Paid",
  .noat "Paid" "hand",
  .mkr "Paid",
  .meth "Paid" "__bool__",
  .cls "Bears",
  .noat "Bears" "hand",
  .noat "Bears" "way",
  .mkr "Bears",
  .meth "Bears" "__bool__",
  .noat "Draft" "money",
  .noat "Draft" "drawer",
  .noat "Draft" "payer",
  .noat "Draft" "due",
  .noat "Draft" "is_taken",
  .mkr "Draft",
  .notru "Draft",
  .isi "Paid",
  .isi "Bears",
  .isi "Draft",
  .kit (.bt "NoneType") (.bt "bool") false,
  .kit (.bt "NoneType") (.bt "int") false,
  .kit (.bt "NoneType") (.bt "list") false,
  .kit (.bt "NoneType") (.bt "str") false,
  .kit (.bt "NoneType") (.bt "tuple") false,
  .kit (.bt "NoneType") (.cl "Draft") false,
  .kit (.bt "bool") (.bt "bool") true,
  .kit (.bt "bool") (.bt "int") true,
  .kit (.bt "bool") (.bt "list") false,
  .kit (.bt "bool") (.bt "str") false,
  .kit (.bt "bool") (.bt "tuple") false,
  .kit (.bt "bool") (.cl "Draft") false,
  .kit (.bt "int") (.bt "bool") false,
  .kit (.bt "int") (.bt "int") true,
  .kit (.bt "int") (.bt "list") false,
  .kit (.bt "int") (.bt "str") false,
  .kit (.bt "int") (.bt "tuple") false,
  .kit (.bt "int") (.cl "Draft") false,
  .kit (.bt "str") (.bt "bool") false,
  .kit (.bt "str") (.bt "int") false,
  .kit (.bt "str") (.bt "list") false,
  .kit (.bt "str") (.bt "str") true,
  .kit (.bt "str") (.bt "tuple") false,
  .kit (.bt "str") (.cl "Draft") false,
  .kit (.bt "tuple") (.bt "bool") false,
  .kit (.bt "tuple") (.bt "int") false,
  .kit (.bt "tuple") (.bt "list") false,
  .kit (.bt "tuple") (.bt "str") false,
  .kit (.bt "tuple") (.bt "tuple") true,
  .kit (.bt "tuple") (.cl "Draft") false,
  .kit (.bt "list") (.bt "bool") false,
  .kit (.bt "list") (.bt "int") false,
  .kit (.bt "list") (.bt "list") true,
  .kit (.bt "list") (.bt "str") false,
  .kit (.bt "list") (.bt "tuple") false,
  .kit (.bt "list") (.cl "Draft") false,
  .kit (.bt "dict") (.bt "bool") false,
  .kit (.bt "dict") (.bt "int") false,
  .kit (.bt "dict") (.bt "list") false,
  .kit (.bt "dict") (.bt "str") false,
  .kit (.bt "dict") (.bt "tuple") false,
  .kit (.bt "dict") (.cl "Draft") false,
  .kit (.cl "Paid") (.bt "bool") false,
  .kit (.cl "Paid") (.bt "int") false,
  .kit (.cl "Paid") (.bt "list") false,
  .kit (.cl "Paid") (.bt "str") false,
  .kit (.cl "Paid") (.bt "tuple") false,
  .kit (.cl "Paid") (.cl "Draft") false,
  .kit (.cl "Bears") (.bt "bool") false,
  .kit (.cl "Bears") (.bt "int") false,
  .kit (.cl "Bears") (.bt "list") false,
  .kit (.cl "Bears") (.bt "str") false,
  .kit (.cl "Bears") (.bt "tuple") false,
  .kit (.cl "Bears") (.cl "Draft") false,
  .kit (.cl "Draft") (.bt "bool") false,
  .kit (.cl "Draft") (.bt "int") false,
  .kit (.cl "Draft") (.bt "list") false,
  .kit (.cl "Draft") (.bt "str") false,
  .kit (.cl "Draft") (.bt "tuple") false,
  .kit (.cl "Draft") (.cl "Draft") true,
  .glo "_law_power",
  .glo "_law_sets",
  .glo "is_row",
  .glo "is_name",
  .glo "check_passed",
  .glo "asked_back",
  .glo "holder_of",
  .glo "judge_draft",
  .glo "losses",
  .glo "fewest_failing",
  .glo "is_integer",
  .glo "is_number",
  .glo "check_number",
  .glo "check_name",
  .glo "_law_number",
  .glo "_law_take",
  .glo "law"]
theorem mf0 : Fx.free "range" ∈ fa := List.mem_of_getElem? (i := 0) rfl
theorem mf1 : Fx.free "enumerate" ∈ fa := List.mem_of_getElem? (i := 1) rfl
theorem mf2 : Fx.free "len" ∈ fa := List.mem_of_getElem? (i := 2) rfl
theorem mf3 : Fx.free "isinstance" ∈ fa := List.mem_of_getElem? (i := 3) rfl
theorem mf4 : Fx.free "tuple" ∈ fa := List.mem_of_getElem? (i := 4) rfl
theorem mf5 : Fx.free "list" ∈ fa := List.mem_of_getElem? (i := 5) rfl
theorem mf6 : Fx.free "all" ∈ fa := List.mem_of_getElem? (i := 6) rfl
theorem mf7 : Fx.tree "SMALL" (.str "abcdefghijklmnopqrstuvwxyz") ∈ fa := List.mem_of_getElem? (i := 7) rfl
theorem mf8 : Fx.tree "FIGURES" (.str "0123456789") ∈ fa := List.mem_of_getElem? (i := 8) rfl
theorem mf9 : Fx.free "str" ∈ fa := List.mem_of_getElem? (i := 9) rfl
theorem mf10 : Fx.cls "Draft" ∈ fa := List.mem_of_getElem? (i := 10) rfl
theorem mf11 : Fx.free "dict" ∈ fa := List.mem_of_getElem? (i := 11) rfl
theorem mf12 : Fx.free "bool" ∈ fa := List.mem_of_getElem? (i := 12) rfl
theorem mf13 : Fx.free "int" ∈ fa := List.mem_of_getElem? (i := 13) rfl
theorem mf14 : Fx.cls "Paid" ∈ fa := List.mem_of_getElem? (i := 14) rfl
theorem mf15 : Fx.noat "Paid" "hand" ∈ fa := List.mem_of_getElem? (i := 15) rfl
theorem mf16 : Fx.mkr "Paid" ∈ fa := List.mem_of_getElem? (i := 16) rfl
theorem mf17 : Fx.meth "Paid" "__bool__" ∈ fa := List.mem_of_getElem? (i := 17) rfl
theorem mf18 : Fx.cls "Bears" ∈ fa := List.mem_of_getElem? (i := 18) rfl
theorem mf19 : Fx.noat "Bears" "hand" ∈ fa := List.mem_of_getElem? (i := 19) rfl
theorem mf20 : Fx.noat "Bears" "way" ∈ fa := List.mem_of_getElem? (i := 20) rfl
theorem mf21 : Fx.mkr "Bears" ∈ fa := List.mem_of_getElem? (i := 21) rfl
theorem mf22 : Fx.meth "Bears" "__bool__" ∈ fa := List.mem_of_getElem? (i := 22) rfl
theorem mf23 : Fx.noat "Draft" "money" ∈ fa := List.mem_of_getElem? (i := 23) rfl
theorem mf24 : Fx.noat "Draft" "drawer" ∈ fa := List.mem_of_getElem? (i := 24) rfl
theorem mf25 : Fx.noat "Draft" "payer" ∈ fa := List.mem_of_getElem? (i := 25) rfl
theorem mf26 : Fx.noat "Draft" "due" ∈ fa := List.mem_of_getElem? (i := 26) rfl
theorem mf27 : Fx.noat "Draft" "is_taken" ∈ fa := List.mem_of_getElem? (i := 27) rfl
theorem mf28 : Fx.mkr "Draft" ∈ fa := List.mem_of_getElem? (i := 28) rfl
theorem mf29 : Fx.notru "Draft" ∈ fa := List.mem_of_getElem? (i := 29) rfl
theorem mf30 : Fx.isi "Paid" ∈ fa := List.mem_of_getElem? (i := 30) rfl
theorem mf31 : Fx.isi "Bears" ∈ fa := List.mem_of_getElem? (i := 31) rfl
theorem mf32 : Fx.isi "Draft" ∈ fa := List.mem_of_getElem? (i := 32) rfl
theorem mf33 : Fx.kit (.bt "NoneType") (.bt "bool") false ∈ fa := List.mem_of_getElem? (i := 33) rfl
theorem mf34 : Fx.kit (.bt "NoneType") (.bt "int") false ∈ fa := List.mem_of_getElem? (i := 34) rfl
theorem mf35 : Fx.kit (.bt "NoneType") (.bt "list") false ∈ fa := List.mem_of_getElem? (i := 35) rfl
theorem mf36 : Fx.kit (.bt "NoneType") (.bt "str") false ∈ fa := List.mem_of_getElem? (i := 36) rfl
theorem mf37 : Fx.kit (.bt "NoneType") (.bt "tuple") false ∈ fa := List.mem_of_getElem? (i := 37) rfl
theorem mf38 : Fx.kit (.bt "NoneType") (.cl "Draft") false ∈ fa := List.mem_of_getElem? (i := 38) rfl
theorem mf39 : Fx.kit (.bt "bool") (.bt "bool") true ∈ fa := List.mem_of_getElem? (i := 39) rfl
theorem mf40 : Fx.kit (.bt "bool") (.bt "int") true ∈ fa := List.mem_of_getElem? (i := 40) rfl
theorem mf41 : Fx.kit (.bt "bool") (.bt "list") false ∈ fa := List.mem_of_getElem? (i := 41) rfl
theorem mf42 : Fx.kit (.bt "bool") (.bt "str") false ∈ fa := List.mem_of_getElem? (i := 42) rfl
theorem mf43 : Fx.kit (.bt "bool") (.bt "tuple") false ∈ fa := List.mem_of_getElem? (i := 43) rfl
theorem mf44 : Fx.kit (.bt "bool") (.cl "Draft") false ∈ fa := List.mem_of_getElem? (i := 44) rfl
theorem mf45 : Fx.kit (.bt "int") (.bt "bool") false ∈ fa := List.mem_of_getElem? (i := 45) rfl
theorem mf46 : Fx.kit (.bt "int") (.bt "int") true ∈ fa := List.mem_of_getElem? (i := 46) rfl
theorem mf47 : Fx.kit (.bt "int") (.bt "list") false ∈ fa := List.mem_of_getElem? (i := 47) rfl
theorem mf48 : Fx.kit (.bt "int") (.bt "str") false ∈ fa := List.mem_of_getElem? (i := 48) rfl
theorem mf49 : Fx.kit (.bt "int") (.bt "tuple") false ∈ fa := List.mem_of_getElem? (i := 49) rfl
theorem mf50 : Fx.kit (.bt "int") (.cl "Draft") false ∈ fa := List.mem_of_getElem? (i := 50) rfl
theorem mf51 : Fx.kit (.bt "str") (.bt "bool") false ∈ fa := List.mem_of_getElem? (i := 51) rfl
theorem mf52 : Fx.kit (.bt "str") (.bt "int") false ∈ fa := List.mem_of_getElem? (i := 52) rfl
theorem mf53 : Fx.kit (.bt "str") (.bt "list") false ∈ fa := List.mem_of_getElem? (i := 53) rfl
theorem mf54 : Fx.kit (.bt "str") (.bt "str") true ∈ fa := List.mem_of_getElem? (i := 54) rfl
theorem mf55 : Fx.kit (.bt "str") (.bt "tuple") false ∈ fa := List.mem_of_getElem? (i := 55) rfl
theorem mf56 : Fx.kit (.bt "str") (.cl "Draft") false ∈ fa := List.mem_of_getElem? (i := 56) rfl
theorem mf57 : Fx.kit (.bt "tuple") (.bt "bool") false ∈ fa := List.mem_of_getElem? (i := 57) rfl
theorem mf58 : Fx.kit (.bt "tuple") (.bt "int") false ∈ fa := List.mem_of_getElem? (i := 58) rfl
theorem mf59 : Fx.kit (.bt "tuple") (.bt "list") false ∈ fa := List.mem_of_getElem? (i := 59) rfl
theorem mf60 : Fx.kit (.bt "tuple") (.bt "str") false ∈ fa := List.mem_of_getElem? (i := 60) rfl
theorem mf61 : Fx.kit (.bt "tuple") (.bt "tuple") true ∈ fa := List.mem_of_getElem? (i := 61) rfl
theorem mf62 : Fx.kit (.bt "tuple") (.cl "Draft") false ∈ fa := List.mem_of_getElem? (i := 62) rfl
theorem mf63 : Fx.kit (.bt "list") (.bt "bool") false ∈ fa := List.mem_of_getElem? (i := 63) rfl
theorem mf64 : Fx.kit (.bt "list") (.bt "int") false ∈ fa := List.mem_of_getElem? (i := 64) rfl
theorem mf65 : Fx.kit (.bt "list") (.bt "list") true ∈ fa := List.mem_of_getElem? (i := 65) rfl
theorem mf66 : Fx.kit (.bt "list") (.bt "str") false ∈ fa := List.mem_of_getElem? (i := 66) rfl
theorem mf67 : Fx.kit (.bt "list") (.bt "tuple") false ∈ fa := List.mem_of_getElem? (i := 67) rfl
theorem mf68 : Fx.kit (.bt "list") (.cl "Draft") false ∈ fa := List.mem_of_getElem? (i := 68) rfl
theorem mf69 : Fx.kit (.bt "dict") (.bt "bool") false ∈ fa := List.mem_of_getElem? (i := 69) rfl
theorem mf70 : Fx.kit (.bt "dict") (.bt "int") false ∈ fa := List.mem_of_getElem? (i := 70) rfl
theorem mf71 : Fx.kit (.bt "dict") (.bt "list") false ∈ fa := List.mem_of_getElem? (i := 71) rfl
theorem mf72 : Fx.kit (.bt "dict") (.bt "str") false ∈ fa := List.mem_of_getElem? (i := 72) rfl
theorem mf73 : Fx.kit (.bt "dict") (.bt "tuple") false ∈ fa := List.mem_of_getElem? (i := 73) rfl
theorem mf74 : Fx.kit (.bt "dict") (.cl "Draft") false ∈ fa := List.mem_of_getElem? (i := 74) rfl
theorem mf75 : Fx.kit (.cl "Paid") (.bt "bool") false ∈ fa := List.mem_of_getElem? (i := 75) rfl
theorem mf76 : Fx.kit (.cl "Paid") (.bt "int") false ∈ fa := List.mem_of_getElem? (i := 76) rfl
theorem mf77 : Fx.kit (.cl "Paid") (.bt "list") false ∈ fa := List.mem_of_getElem? (i := 77) rfl
theorem mf78 : Fx.kit (.cl "Paid") (.bt "str") false ∈ fa := List.mem_of_getElem? (i := 78) rfl
theorem mf79 : Fx.kit (.cl "Paid") (.bt "tuple") false ∈ fa := List.mem_of_getElem? (i := 79) rfl
theorem mf80 : Fx.kit (.cl "Paid") (.cl "Draft") false ∈ fa := List.mem_of_getElem? (i := 80) rfl
theorem mf81 : Fx.kit (.cl "Bears") (.bt "bool") false ∈ fa := List.mem_of_getElem? (i := 81) rfl
theorem mf82 : Fx.kit (.cl "Bears") (.bt "int") false ∈ fa := List.mem_of_getElem? (i := 82) rfl
theorem mf83 : Fx.kit (.cl "Bears") (.bt "list") false ∈ fa := List.mem_of_getElem? (i := 83) rfl
theorem mf84 : Fx.kit (.cl "Bears") (.bt "str") false ∈ fa := List.mem_of_getElem? (i := 84) rfl
theorem mf85 : Fx.kit (.cl "Bears") (.bt "tuple") false ∈ fa := List.mem_of_getElem? (i := 85) rfl
theorem mf86 : Fx.kit (.cl "Bears") (.cl "Draft") false ∈ fa := List.mem_of_getElem? (i := 86) rfl
theorem mf87 : Fx.kit (.cl "Draft") (.bt "bool") false ∈ fa := List.mem_of_getElem? (i := 87) rfl
theorem mf88 : Fx.kit (.cl "Draft") (.bt "int") false ∈ fa := List.mem_of_getElem? (i := 88) rfl
theorem mf89 : Fx.kit (.cl "Draft") (.bt "list") false ∈ fa := List.mem_of_getElem? (i := 89) rfl
theorem mf90 : Fx.kit (.cl "Draft") (.bt "str") false ∈ fa := List.mem_of_getElem? (i := 90) rfl
theorem mf91 : Fx.kit (.cl "Draft") (.bt "tuple") false ∈ fa := List.mem_of_getElem? (i := 91) rfl
theorem mf92 : Fx.kit (.cl "Draft") (.cl "Draft") true ∈ fa := List.mem_of_getElem? (i := 92) rfl
theorem mf93 : Fx.glo "_law_power" ∈ fa := List.mem_of_getElem? (i := 93) rfl
theorem mf94 : Fx.glo "_law_sets" ∈ fa := List.mem_of_getElem? (i := 94) rfl
theorem mf95 : Fx.glo "is_row" ∈ fa := List.mem_of_getElem? (i := 95) rfl
theorem mf96 : Fx.glo "is_name" ∈ fa := List.mem_of_getElem? (i := 96) rfl
theorem mf97 : Fx.glo "check_passed" ∈ fa := List.mem_of_getElem? (i := 97) rfl
theorem mf98 : Fx.glo "asked_back" ∈ fa := List.mem_of_getElem? (i := 98) rfl
theorem mf99 : Fx.glo "holder_of" ∈ fa := List.mem_of_getElem? (i := 99) rfl
theorem mf100 : Fx.glo "judge_draft" ∈ fa := List.mem_of_getElem? (i := 100) rfl
theorem mf101 : Fx.glo "losses" ∈ fa := List.mem_of_getElem? (i := 101) rfl
theorem mf102 : Fx.glo "fewest_failing" ∈ fa := List.mem_of_getElem? (i := 102) rfl
theorem mf103 : Fx.glo "is_integer" ∈ fa := List.mem_of_getElem? (i := 103) rfl
theorem mf104 : Fx.glo "is_number" ∈ fa := List.mem_of_getElem? (i := 104) rfl
theorem mf105 : Fx.glo "check_number" ∈ fa := List.mem_of_getElem? (i := 105) rfl
theorem mf106 : Fx.glo "check_name" ∈ fa := List.mem_of_getElem? (i := 106) rfl
theorem mf107 : Fx.glo "_law_number" ∈ fa := List.mem_of_getElem? (i := 107) rfl
theorem mf108 : Fx.glo "_law_take" ∈ fa := List.mem_of_getElem? (i := 108) rfl
theorem mf109 : Fx.glo "law" ∈ fa := List.mem_of_getElem? (i := 109) rfl
/-! Paid.__bool__ -/
def N_Paid___bool__ : List Str := ["self"]
def sc_Paid___bool__ : Scp := { defScope ((inClass (top 15) 1)) with fs := fun _ => true }
def P_Paid___bool__ : {F : SF // ∀ W, Low fa cs W → DB W N_Paid___bool__ sc_Paid___bool__ (defBody ((inClass (top 15) 1))) F} := ⟨_, fun W L =>
  (db_one (ds_ret de_bool))⟩
def B_Paid___bool__ : SF := P_Paid___bool__.1
def F_Paid___bool__ : FSem := fnD 1 1 B_Paid___bool__
theorem fs_Paid___bool__ : FnScope N_Paid___bool__ ["self"] (defScope ((inClass (top 15) 1))) := ⟨rfl, rfl, rfl, by decide +kernel, rfl, by decide +kernel, by decide +kernel⟩
/-! Bears.__bool__ -/
def N_Bears___bool__ : List Str := ["self"]
def sc_Bears___bool__ : Scp := { defScope ((inClass (top 16) 1)) with fs := fun _ => true }
def P_Bears___bool__ : {F : SF // ∀ W, Low fa cs W → DB W N_Bears___bool__ sc_Bears___bool__ (defBody ((inClass (top 16) 1))) F} := ⟨_, fun W L =>
  (db_one (ds_ret de_bool))⟩
def B_Bears___bool__ : SF := P_Bears___bool__.1
def F_Bears___bool__ : FSem := fnD 1 1 B_Bears___bool__
theorem fs_Bears___bool__ : FnScope N_Bears___bool__ ["self"] (defScope ((inClass (top 16) 1))) := ⟨rfl, rfl, rfl, by decide +kernel, rfl, by decide +kernel, by decide +kernel⟩
/-! _law_power -/
def N__law_power : List Str := ["times", "found", "turn"]
def sc__law_power : Scp := { defScope (top 26) with fs := fun _ => true }
theorem n0__law_power : vOk N__law_power sc__law_power 1 "found" = true := by decide +kernel
theorem n1__law_power : gOk sc__law_power "range" = true := by decide +kernel
theorem n2__law_power : vOk N__law_power sc__law_power 0 "times" = true := by decide +kernel
theorem n3__law_power : sOk N__law_power sc__law_power 2 "turn" = true := by decide +kernel
theorem n4__law_power : sOk N__law_power sc__law_power 1 "found" = true := by decide +kernel
def P__law_power : {F : SF // ∀ W, Low fa cs W → DB W N__law_power sc__law_power (defBody (top 26)) F} := ⟨_, fun W L =>
  (db_cons (s_v n4__law_power rfl de_int) (db_cons (ds_for rfl (i_r1 L mf0 n1__law_power rfl (vOk_v n2__law_power)) (g_v n3__law_power) (db_one (s_v n4__law_power rfl (de_bin ops_mul (vOk_v n0__law_power) de_int)))) (db_one (ds_ret (vOk_v n0__law_power)))))⟩
def B__law_power : SF := P__law_power.1
def F__law_power : FSem := fnD 1 3 B__law_power
theorem fs__law_power : FnScope N__law_power ["times"] (defScope (top 26)) := ⟨rfl, rfl, rfl, by decide +kernel, rfl, by decide +kernel, by decide +kernel⟩
/-! _law_sets -/
def N__law_sets : List Str := ["names", "found", "name", "row"]
def sc__law_sets : Scp := { defScope (top 27) with fs := fun _ => true }
def cs0__law_sets : Scope := { kind := .function, names := [(PySem.Str.ofString ".0", .local), (PySem.Str.ofString "row", .local), (PySem.Str.ofString "name", .free)], isGenerator := false, isCoroutine := false, more := [] }
theorem n0__law_sets : vOk N__law_sets sc__law_sets 1 "found" = true := by decide +kernel
theorem n1__law_sets : vOk N__law_sets sc__law_sets 0 "names" = true := by decide +kernel
theorem n2__law_sets : sOk N__law_sets sc__law_sets 2 "name" = true := by decide +kernel
theorem n3__law_sets : sOk N__law_sets sc__law_sets 1 "found" = true := by decide +kernel
theorem n4__law_sets : BlkOk N__law_sets (sc__law_sets : Scp).toScope cs0__law_sets [(PySem.Str.ofString "row", 3)] := ⟨rfl, by decide +kernel, by decide +kernel, by decide +kernel, by decide +kernel⟩
theorem n5__law_sets : sOk N__law_sets (blkS cs0__law_sets sc__law_sets) 3 "row" = true := by decide +kernel
theorem n6__law_sets : vOk N__law_sets (blkS cs0__law_sets sc__law_sets) 3 "row" = true := by decide +kernel
theorem n7__law_sets : vOk N__law_sets (blkS cs0__law_sets sc__law_sets) 2 "name" = true := by decide +kernel
def P__law_sets : {F : SF // ∀ W, Low fa cs W → DB W N__law_sets sc__law_sets (defBody (top 27)) F} := ⟨_, fun W L =>
  (db_cons (s_v n3__law_sets rfl (de_lst (da_cons rfl (de_lst da_nil) da_nil))) (db_cons (ds_for rfl (di_seq (vOk_v n1__law_sets)) (g_v n2__law_sets) (db_one (s_v n3__law_sets rfl (de_bin ops_add (vOk_v n0__law_sets) (de_tree (de_lc n4__law_sets rfl (di_seq (vOk_v n0__law_sets)) (gc_v n5__law_sets (by decide)) dts_nil (de_bin ops_add (vOk_v n6__law_sets) (de_lst (da_cons rfl (vOk_v n7__law_sets) da_nil))))))))) (db_one (ds_ret (vOk_v n0__law_sets)))))⟩
def B__law_sets : SF := P__law_sets.1
def F__law_sets : FSem := fnD 1 4 B__law_sets
theorem fs__law_sets : FnScope N__law_sets ["names"] (defScope (top 27)) := ⟨rfl, rfl, rfl, by decide +kernel, rfl, by decide +kernel, by decide +kernel⟩
/-! is_row -/
def N_is_row : List Str := ["thing"]
def sc_is_row : Scp := { defScope (top 12) with fs := fun _ => true }
theorem n0_is_row : gOk sc_is_row "isinstance" = true := by decide +kernel
theorem n1_is_row : gOk sc_is_row "tuple" = true := by decide +kernel
theorem n2_is_row : gOk sc_is_row "list" = true := by decide +kernel
theorem n3_is_row : vOk N_is_row sc_is_row 0 "thing" = true := by decide +kernel
def P_is_row : {F : SF // ∀ W, Low fa cs W → DB W N_is_row sc_is_row (defBody (top 12)) F} := ⟨_, fun W L =>
  (db_one (ds_ret (e_isiT L mf3 n0_is_row rfl (vOk_v n3_is_row) (.cons (ty_b PyProof.Rows.boot_list L mf5 n2_is_row) (.cons (ty_b PyProof.Rows.boot_tuple L mf4 n1_is_row) .nil)) (by decide))))⟩
def B_is_row : SF := P_is_row.1
def F_is_row : FSem := fnD 1 1 B_is_row
theorem fs_is_row : FnScope N_is_row ["thing"] (defScope (top 12)) := ⟨rfl, rfl, rfl, by decide +kernel, rfl, by decide +kernel, by decide +kernel⟩
def mtB (c : Str) : Option FSem := if c = "Paid" then some F_Paid___bool__ else if c = "Bears" then some F_Bears___bool__ else none
/-! Bears.__init__ -/
def N_Bears___init__ : List Str := ["self", "hand", "way"]
def sc_Bears___init__ : Scp := { defScope ((inClass (top 16) 0)) with fs := fun _ => true }
theorem n0_Bears___init__ : vOk N_Bears___init__ sc_Bears___init__ 0 "self" = true := by decide +kernel
theorem n1_Bears___init__ : gOk sc_Bears___init__ "is_row" = true := by decide +kernel
theorem n2_Bears___init__ : vOk N_Bears___init__ sc_Bears___init__ 2 "way" = true := by decide +kernel
theorem n3_Bears___init__ : gOk sc_Bears___init__ "tuple" = true := by decide +kernel
theorem n4_Bears___init__ : vOk N_Bears___init__ sc_Bears___init__ 1 "hand" = true := by decide +kernel
def P_Bears___init__ : {F : SF // ∀ W, Low fa cs W → (∀ c f, mtB c = some f → MethHas W c "__bool__" f) → (FnHas W "is_row" F_is_row) → DB W N_Bears___init__ sc_Bears___init__ (defBody ((inClass (top 16) 0))) F} := ⟨_, fun W L hB h_is_row =>
  (db_cons (s_t rfl rfl (by decide +kernel) (dg_fld L.na (vOk_v n0_Bears___init__)) (vOk_v n4_Bears___init__)) (db_one (s_t rfl rfl (by decide +kernel) (dg_fld L.na (vOk_v n0_Bears___init__)) (de_if (dt_tru hB L.pt rfl (e_f h_is_row n1_Bears___init__ rfl rfl (da_cons rfl (vOk_v n2_Bears___init__) da_nil))) (e_bT cs_tuple PyProof.Rows.boot_tuple L mf4 n3_Bears___init__ rfl rfl (da_cons rfl (vOk_v n2_Bears___init__) da_nil)) (vOk_v n2_Bears___init__)))))⟩
def B_Bears___init__ : SF := P_Bears___init__.1
def F_Bears___init__ : FSem := fnD 3 3 B_Bears___init__
theorem fs_Bears___init__ : FnScope N_Bears___init__ ["self", "hand", "way"] (defScope ((inClass (top 16) 0))) := ⟨rfl, rfl, rfl, by decide +kernel, rfl, by decide +kernel, by decide +kernel⟩
/-! is_name -/
def N_is_name : List Str := ["thing", "sign"]
def sc_is_name : Scp := { defScope (top 10) with fs := fun _ => true }
def cs0_is_name : Scope := { kind := .function, names := [(PySem.Str.ofString ".0", .local), (PySem.Str.ofString "sign", .local), (PySem.Str.ofString "SMALL", .globalImplicit), (PySem.Str.ofString "FIGURES", .globalImplicit)], isGenerator := false, isCoroutine := false, more := [] }
theorem n0_is_name : gOk sc_is_name "all" = true := by decide +kernel
theorem n1_is_name : vOk N_is_name sc_is_name 0 "thing" = true := by decide +kernel
theorem n2_is_name : BlkOk N_is_name (sc_is_name : Scp).toScope cs0_is_name [(PySem.Str.ofString "sign", 1)] := ⟨rfl, by decide +kernel, by decide +kernel, by decide +kernel, by decide +kernel⟩
theorem n3_is_name : sOk N_is_name (blkS cs0_is_name sc_is_name) 1 "sign" = true := by decide +kernel
theorem n4_is_name : vOk N_is_name (blkS cs0_is_name sc_is_name) 1 "sign" = true := by decide +kernel
theorem n5_is_name : gOk (blkS cs0_is_name sc_is_name) "SMALL" = true := by decide +kernel
theorem n6_is_name : gOk (blkS cs0_is_name sc_is_name) "FIGURES" = true := by decide +kernel
theorem n7_is_name : gOk sc_is_name "SMALL" = true := by decide +kernel
theorem n8_is_name : gOk sc_is_name "len" = true := by decide +kernel
theorem n9_is_name : gOk sc_is_name "isinstance" = true := by decide +kernel
theorem n10_is_name : gOk sc_is_name "str" = true := by decide +kernel
def P_is_name : {F : SF // ∀ W, Low fa cs W → (∀ c f, mtB c = some f → MethHas W c "__bool__" f) → DB W N_is_name sc_is_name (defBody (top 10)) F} := ⟨_, fun W L hB =>
  (db_cons (ds_if (t_w (w_o (dt_not (dt_tru hB L.pt rfl (e_isi L mf3 n9_is_name rfl (vOk_v n1_is_name) (ty_b PyProof.Rows.boot_str L mf9 n10_is_name)))) (w_o (dt_not (dt_chain ops_le ops_le (by with_unfolding_all rfl) de_int (e_bB cs_len boot_len L mf2 n8_is_name rfl rfl (da_cons rfl (vOk_v n1_is_name) da_nil)) de_int)) (w_o1 (dt_cmp ops_notin (by rfl) (de_idx rfl (vOk_v n1_is_name) de_int) (e_g (d := .str "abcdefghijklmnopqrstuvwxyz") L mf7 n7_is_name)))))) (db_one (ds_ret de_bool)) db_nil) (db_one (ds_ret (e_bB cs_all PyProof.Rows.boot_all L mf6 n0_is_name rfl rfl (da_cons rfl (de_tree (de_lc n2_is_name rfl (di_seq (vOk_v n1_is_name)) (gc_v n3_is_name (by decide)) dts_nil (de_cmp ops_in (by rfl) (vOk_v n4_is_name) (de_bin ops_add (e_g (d := .str "abcdefghijklmnopqrstuvwxyz") L mf7 n5_is_name) (e_g (d := .str "0123456789") L mf8 n6_is_name))))) da_nil)))))⟩
def B_is_name : SF := P_is_name.1
def F_is_name : FSem := fnD 1 2 B_is_name
theorem fs_is_name : FnScope N_is_name ["thing"] (defScope (top 10)) := ⟨rfl, rfl, rfl, by decide +kernel, rfl, by decide +kernel, by decide +kernel⟩
/-! check_passed -/
def N_check_passed : List Str := ["draft", "hands", "failing", "place", "hand"]
def sc_check_passed : Scp := { defScope (top 17) with fs := fun _ => true }
def cs0_check_passed : Scope := { kind := .function, names := [(PySem.Str.ofString ".0", .local), (PySem.Str.ofString "hand", .local), (PySem.Str.ofString "is_name", .globalImplicit)], isGenerator := false, isCoroutine := false, more := [] }
theorem n0_check_passed : gOk sc_check_passed "all" = true := by decide +kernel
theorem n1_check_passed : vOk N_check_passed sc_check_passed 2 "failing" = true := by decide +kernel
theorem n2_check_passed : BlkOk N_check_passed (sc_check_passed : Scp).toScope cs0_check_passed [(PySem.Str.ofString "hand", 4)] := ⟨rfl, by decide +kernel, by decide +kernel, by decide +kernel, by decide +kernel⟩
theorem n3_check_passed : sOk N_check_passed (blkS cs0_check_passed sc_check_passed) 4 "hand" = true := by decide +kernel
theorem n4_check_passed : gOk (blkS cs0_check_passed sc_check_passed) "is_name" = true := by decide +kernel
theorem n5_check_passed : vOk N_check_passed (blkS cs0_check_passed sc_check_passed) 4 "hand" = true := by decide +kernel
theorem n6_check_passed : gOk sc_check_passed "is_row" = true := by decide +kernel
theorem n7_check_passed : gOk sc_check_passed "enumerate" = true := by decide +kernel
theorem n8_check_passed : vOk N_check_passed sc_check_passed 1 "hands" = true := by decide +kernel
theorem n9_check_passed : sOk N_check_passed sc_check_passed 4 "hand" = true := by decide +kernel
theorem n10_check_passed : sOk N_check_passed sc_check_passed 3 "place" = true := by decide +kernel
theorem n11_check_passed : vOk N_check_passed sc_check_passed 4 "hand" = true := by decide +kernel
theorem n12_check_passed : gOk sc_check_passed "list" = true := by decide +kernel
theorem n13_check_passed : vOk N_check_passed sc_check_passed 3 "place" = true := by decide +kernel
theorem n14_check_passed : vOk N_check_passed sc_check_passed 0 "draft" = true := by decide +kernel
theorem n15_check_passed : gOk sc_check_passed "is_name" = true := by decide +kernel
theorem n16_check_passed : gOk sc_check_passed "isinstance" = true := by decide +kernel
theorem n17_check_passed : gOk sc_check_passed "Draft" = true := by decide +kernel
def P_check_passed : {F : SF // ∀ W, Low fa cs W → (∀ c f, mtB c = some f → MethHas W c "__bool__" f) → (FnHas W "is_name" F_is_name) → (FnHas W "is_row" F_is_row) → DB W N_check_passed sc_check_passed (defBody (top 17)) F} := ⟨_, fun W L hB h_is_name h_is_row =>
  (db_cons (ds_if (dt_not (dt_tru hB L.pt rfl (e_isi L mf3 n16_check_passed rfl (vOk_v n14_check_passed) (ty_c L mf10 n17_check_passed (by decide +kernel))))) (db_one ds_never) db_nil) (db_cons (ds_if (dt_not (dt_tru hB L.pt rfl (e_f h_is_row n6_check_passed rfl rfl (da_cons rfl (vOk_v n8_check_passed) da_nil)))) (db_one ds_never) db_nil) (db_cons (ds_for rfl (i_en L mf1 n7_check_passed rfl (vOk_v n8_check_passed)) (dg_tup rfl (dgs_cons rfl (g_v n10_check_passed) (dgs_cons rfl (g_v n9_check_passed) dgs_nil))) (db_one (ds_if (t_w (w_o (dt_not (dt_tru hB L.pt rfl (e_f h_is_name n15_check_passed rfl rfl (da_cons rfl (vOk_v n11_check_passed) da_nil)))) (w_o (dt_cmp ops_in (by rfl) (vOk_v n11_check_passed) (de_tup (da_cons rfl (de_attr rfl (vOk_v n14_check_passed)) (da_cons rfl (de_attr rfl (vOk_v n14_check_passed)) da_nil)))) (w_o1 (dt_cmp ops_in (by rfl) (vOk_v n11_check_passed) (de_slice (de_tree (f_bT cf_list PyProof.Rows.boot_list L mf5 n12_check_passed rfl rfl (da_cons rfl (vOk_v n8_check_passed) da_nil))) do_none (do_some (vOk_v n13_check_passed)))))))) (db_one ds_never) db_nil))) (db_one (ds_if (t_w (w_o (dt_not (dt_tru hB L.pt rfl (e_f h_is_row n6_check_passed rfl rfl (da_cons rfl (vOk_v n1_check_passed) da_nil)))) (w_o1 (dt_not (dt_tru hB L.pt rfl (e_bB cs_all PyProof.Rows.boot_all L mf6 n0_check_passed rfl rfl (da_cons rfl (de_tree (de_lc n2_check_passed rfl (di_seq (vOk_v n1_check_passed)) (gc_v n3_check_passed (by decide)) dts_nil (e_f h_is_name n4_check_passed rfl rfl (da_cons rfl (vOk_v n5_check_passed) da_nil)))) da_nil))))))) (db_one ds_never) db_nil)))))⟩
def B_check_passed : SF := P_check_passed.1
def F_check_passed : FSem := fnD 3 5 B_check_passed
theorem fs_check_passed : FnScope N_check_passed ["draft", "hands", "failing"] (defScope (top 17)) := ⟨rfl, rfl, rfl, by decide +kernel, rfl, by decide +kernel, by decide +kernel⟩
/-! asked_back -/
def N_asked_back : List Str := ["draft", "hands", "hand", "rows"]
def sc_asked_back : Scp := { defScope (top 19) with fs := fun _ => true }
theorem n0_asked_back : vOk N_asked_back sc_asked_back 3 "rows" = true := by decide +kernel
theorem n1_asked_back : vOk N_asked_back sc_asked_back 2 "hand" = true := by decide +kernel
theorem n2_asked_back : sOk N_asked_back sc_asked_back 3 "rows" = true := by decide +kernel
theorem n3_asked_back : vOk N_asked_back sc_asked_back 1 "hands" = true := by decide +kernel
theorem n4_asked_back : vOk N_asked_back sc_asked_back 0 "draft" = true := by decide +kernel
theorem n5_asked_back : gOk sc_asked_back "check_passed" = true := by decide +kernel
def P_asked_back : {F : SF // ∀ W, Low fa cs W → (FnHas W "check_passed" F_check_passed) → DB W N_asked_back sc_asked_back (defBody (top 19)) F} := ⟨_, fun W L h_check_passed =>
  (db_cons (ds_expr rfl (e_f h_check_passed n5_asked_back rfl rfl (da_cons rfl (vOk_v n4_asked_back) (da_cons rfl (vOk_v n3_asked_back) (da_cons rfl (de_lst da_nil) da_nil))))) (db_cons (s_v n2_asked_back rfl (de_lst (da_cons rfl (de_attr rfl (vOk_v n4_asked_back)) (da_star (vOk_v n3_asked_back) da_nil)))) (db_cons (ds_if (dt_cmp ops_notin (by rfl) (vOk_v n1_asked_back) (vOk_v n0_asked_back)) (db_one ds_never) db_nil) (db_one (ds_ret (de_rev (de_slice (vOk_v n0_asked_back) do_none (do_some (de_index rfl rfl rfl (vOk_v n0_asked_back) (vOk_v n1_asked_back))))))))))⟩
def B_asked_back : SF := P_asked_back.1
def F_asked_back : FSem := fnD 3 4 B_asked_back
theorem fs_asked_back : FnScope N_asked_back ["draft", "hands", "hand"] (defScope (top 19)) := ⟨rfl, rfl, rfl, by decide +kernel, rfl, by decide +kernel, by decide +kernel⟩
/-! Paid.__init__ -/
def N_Paid___init__ : List Str := ["self", "hand"]
def sc_Paid___init__ : Scp := { defScope ((inClass (top 15) 0)) with fs := fun _ => true }
theorem n0_Paid___init__ : vOk N_Paid___init__ sc_Paid___init__ 0 "self" = true := by decide +kernel
theorem n1_Paid___init__ : vOk N_Paid___init__ sc_Paid___init__ 1 "hand" = true := by decide +kernel
def P_Paid___init__ : {F : SF // ∀ W, Low fa cs W → DB W N_Paid___init__ sc_Paid___init__ (defBody ((inClass (top 15) 0))) F} := ⟨_, fun W L =>
  (db_one (s_t rfl rfl (by decide +kernel) (dg_fld L.na (vOk_v n0_Paid___init__)) (vOk_v n1_Paid___init__)))⟩
def B_Paid___init__ : SF := P_Paid___init__.1
def F_Paid___init__ : FSem := fnD 2 2 B_Paid___init__
theorem fs_Paid___init__ : FnScope N_Paid___init__ ["self", "hand"] (defScope ((inClass (top 15) 0))) := ⟨rfl, rfl, rfl, by decide +kernel, rfl, by decide +kernel, by decide +kernel⟩
/-! holder_of -/
def N_holder_of : List Str := ["draft", "hands"]
def sc_holder_of : Scp := { defScope (top 18) with fs := fun _ => true }
theorem n0_holder_of : gOk sc_holder_of "len" = true := by decide +kernel
theorem n1_holder_of : vOk N_holder_of sc_holder_of 1 "hands" = true := by decide +kernel
theorem n2_holder_of : gOk sc_holder_of "list" = true := by decide +kernel
theorem n3_holder_of : vOk N_holder_of sc_holder_of 0 "draft" = true := by decide +kernel
theorem n4_holder_of : gOk sc_holder_of "check_passed" = true := by decide +kernel
def P_holder_of : {F : SF // ∀ W, Low fa cs W → (FnHas W "check_passed" F_check_passed) → DB W N_holder_of sc_holder_of (defBody (top 18)) F} := ⟨_, fun W L h_check_passed =>
  (db_cons (ds_expr rfl (e_f h_check_passed n4_holder_of rfl rfl (da_cons rfl (vOk_v n3_holder_of) (da_cons rfl (vOk_v n1_holder_of) (da_cons rfl (de_lst da_nil) da_nil))))) (db_one (ds_ret (de_if (dt_cmp ops_gt (by rfl) (e_bB cs_len boot_len L mf2 n0_holder_of rfl rfl (da_cons rfl (vOk_v n1_holder_of) da_nil)) de_int) (de_idx rfl (de_tree (f_bT cf_list PyProof.Rows.boot_list L mf5 n2_holder_of rfl rfl (da_cons rfl (vOk_v n1_holder_of) da_nil))) (de_un uns_neg de_int)) (de_attr rfl (vOk_v n3_holder_of))))))⟩
def B_holder_of : SF := P_holder_of.1
def F_holder_of : FSem := fnD 2 2 B_holder_of
theorem fs_holder_of : FnScope N_holder_of ["draft", "hands"] (defScope (top 18)) := ⟨rfl, rfl, rfl, by decide +kernel, rfl, by decide +kernel, by decide +kernel⟩
/-! judge_draft -/
def N_judge_draft : List Str := ["draft", "hands", "failing", "hand", "way", "late", "one"]
def sc_judge_draft : Scp := { defScope (top 20) with fs := fun _ => true }
def cs0_judge_draft : Scope := { kind := .function, names := [(PySem.Str.ofString ".0", .local), (PySem.Str.ofString "one", .local), (PySem.Str.ofString "failing", .free)], isGenerator := false, isCoroutine := false, more := [] }
def cs1_judge_draft : Scope := { kind := .function, names := [(PySem.Str.ofString ".0", .local), (PySem.Str.ofString "one", .local), (PySem.Str.ofString "failing", .free)], isGenerator := false, isCoroutine := false, more := [] }
theorem n0_judge_draft : gOk sc_judge_draft "Bears" = true := by decide +kernel
theorem n1_judge_draft : vOk N_judge_draft sc_judge_draft 4 "way" = true := by decide +kernel
theorem n2_judge_draft : vOk N_judge_draft sc_judge_draft 3 "hand" = true := by decide +kernel
theorem n3_judge_draft : gOk sc_judge_draft "asked_back" = true := by decide +kernel
theorem n4_judge_draft : vOk N_judge_draft sc_judge_draft 1 "hands" = true := by decide +kernel
theorem n5_judge_draft : vOk N_judge_draft sc_judge_draft 0 "draft" = true := by decide +kernel
theorem n6_judge_draft : BlkOk N_judge_draft (sc_judge_draft : Scp).toScope cs0_judge_draft [(PySem.Str.ofString "one", 6)] := ⟨rfl, by decide +kernel, by decide +kernel, by decide +kernel, by decide +kernel⟩
theorem n7_judge_draft : sOk N_judge_draft (blkS cs0_judge_draft sc_judge_draft) 6 "one" = true := by decide +kernel
theorem n8_judge_draft : vOk N_judge_draft (blkS cs0_judge_draft sc_judge_draft) 6 "one" = true := by decide +kernel
theorem n9_judge_draft : vOk N_judge_draft (blkS cs0_judge_draft sc_judge_draft) 2 "failing" = true := by decide +kernel
theorem n10_judge_draft : sOk N_judge_draft sc_judge_draft 3 "hand" = true := by decide +kernel
theorem n11_judge_draft : vOk N_judge_draft sc_judge_draft 5 "late" = true := by decide +kernel
theorem n12_judge_draft : sOk N_judge_draft sc_judge_draft 5 "late" = true := by decide +kernel
theorem n13_judge_draft : BlkOk N_judge_draft (sc_judge_draft : Scp).toScope cs1_judge_draft [(PySem.Str.ofString "one", 6)] := ⟨rfl, by decide +kernel, by decide +kernel, by decide +kernel, by decide +kernel⟩
theorem n14_judge_draft : sOk N_judge_draft (blkS cs1_judge_draft sc_judge_draft) 6 "one" = true := by decide +kernel
theorem n15_judge_draft : vOk N_judge_draft (blkS cs1_judge_draft sc_judge_draft) 6 "one" = true := by decide +kernel
theorem n16_judge_draft : vOk N_judge_draft (blkS cs1_judge_draft sc_judge_draft) 2 "failing" = true := by decide +kernel
theorem n17_judge_draft : vOk N_judge_draft sc_judge_draft 2 "failing" = true := by decide +kernel
theorem n18_judge_draft : gOk sc_judge_draft "Paid" = true := by decide +kernel
theorem n19_judge_draft : gOk sc_judge_draft "holder_of" = true := by decide +kernel
theorem n20_judge_draft : lOk N_judge_draft sc_judge_draft 3 "hand" = true := by decide +kernel
theorem n21_judge_draft : lOk N_judge_draft sc_judge_draft 4 "way" = true := by decide +kernel
theorem n22_judge_draft : gOk sc_judge_draft "check_passed" = true := by decide +kernel
def P_judge_draft : {F : SF // ∀ W, Low fa cs W → (MkHas W "Bears" F_Bears___init__) → (FnHas W "asked_back" F_asked_back) → (∀ c f, mtB c = some f → MethHas W c "__bool__" f) → (MkHas W "Paid" F_Paid___init__) → (FnHas W "holder_of" F_holder_of) → (FnHas W "check_passed" F_check_passed) → DB W N_judge_draft sc_judge_draft (defBody (top 20)) F} := ⟨_, fun W L k_Bears h_asked_back hB k_Paid h_holder_of h_check_passed =>
  (db_cons (ds_expr rfl (e_f h_check_passed n22_judge_draft rfl rfl (da_cons rfl (vOk_v n5_judge_draft) (da_cons rfl (vOk_v n4_judge_draft) (da_cons rfl (vOk_v n17_judge_draft) da_nil))))) (db_cons (s_p2 n20_judge_draft n21_judge_draft (by decide) (by decide +kernel) (da_cons rfl (e_f h_holder_of n19_judge_draft rfl rfl (da_cons rfl (vOk_v n5_judge_draft) (da_cons rfl (vOk_v n4_judge_draft) da_nil))) (da_cons rfl (de_live (df_lst da_nil)) da_nil))) (db_cons (ds_if (t_w (w_a (dt_tru hB L.pt rfl (de_attr rfl (vOk_v n5_judge_draft))) (w_a1 (dt_cmp ops_notin (by rfl) (de_attr rfl (vOk_v n5_judge_draft)) (vOk_v n17_judge_draft))))) (db_one (ds_ret (de_drop (e_m k_Paid n18_judge_draft rfl rfl (da_cons rfl (vOk_v n2_judge_draft) da_nil))))) db_nil) (db_cons (ds_while (n := 1000000000) (dt_cmp ops_ne (by rfl) (de_tree (de_lc n6_judge_draft rfl (di_seq (e_f h_asked_back n3_judge_draft rfl rfl (da_cons rfl (vOk_v n5_judge_draft) (da_cons rfl (vOk_v n4_judge_draft) (da_cons rfl (vOk_v n2_judge_draft) da_nil))))) (gc_v n7_judge_draft (by decide)) (dts_one (dt_cmp ops_notin (by rfl) (vOk_v n8_judge_draft) (vOk_v n9_judge_draft))) (vOk_v n8_judge_draft))) (de_lst da_nil)) (db_cons (s_v n12_judge_draft rfl (de_idx rfl (de_tree (de_lc n13_judge_draft rfl (di_seq (e_f h_asked_back n3_judge_draft rfl rfl (da_cons rfl (vOk_v n5_judge_draft) (da_cons rfl (vOk_v n4_judge_draft) (da_cons rfl (vOk_v n2_judge_draft) da_nil))))) (gc_v n14_judge_draft (by decide)) (dts_one (dt_cmp ops_notin (by rfl) (vOk_v n15_judge_draft) (vOk_v n16_judge_draft))) (vOk_v n15_judge_draft))) de_int)) (db_cons (ds_expr rfl (de_append rfl rfl rfl (vOk_v n1_judge_draft) (de_tup (da_cons rfl (vOk_v n11_judge_draft) (da_cons rfl (vOk_v n2_judge_draft) da_nil))))) (db_one (s_v n10_judge_draft rfl (vOk_v n11_judge_draft)))))) (db_one (ds_ret (de_drop (e_m k_Bears n0_judge_draft rfl rfl (da_cons rfl (vOk_v n2_judge_draft) (da_cons rfl (vOk_v n1_judge_draft) da_nil))))))))))⟩
def B_judge_draft : SF := P_judge_draft.1
def F_judge_draft : FSem := fnD 3 7 B_judge_draft
theorem fs_judge_draft : FnScope N_judge_draft ["draft", "hands", "failing"] (defScope (top 20)) := ⟨rfl, rfl, rfl, by decide +kernel, rfl, by decide +kernel, by decide +kernel⟩
/-! losses -/
def N_losses : List Str := ["draft", "hands", "failing", "found"]
def sc_losses : Scp := { defScope (top 21) with fs := fun _ => true }
theorem n0_losses : vOk N_losses sc_losses 3 "found" = true := by decide +kernel
theorem n1_losses : vOk N_losses sc_losses 0 "draft" = true := by decide +kernel
theorem n2_losses : sOk N_losses sc_losses 3 "found" = true := by decide +kernel
theorem n3_losses : gOk sc_losses "judge_draft" = true := by decide +kernel
theorem n4_losses : vOk N_losses sc_losses 2 "failing" = true := by decide +kernel
theorem n5_losses : vOk N_losses sc_losses 1 "hands" = true := by decide +kernel
def P_losses : {F : SF // ∀ W, Low fa cs W → (∀ c f, mtB c = some f → MethHas W c "__bool__" f) → (FnHas W "judge_draft" F_judge_draft) → DB W N_losses sc_losses (defBody (top 21)) F} := ⟨_, fun W L hB h_judge_draft =>
  (db_cons (s_v n2_losses rfl (e_f h_judge_draft n3_losses rfl rfl (da_cons rfl (vOk_v n1_losses) (da_cons rfl (vOk_v n5_losses) (da_cons rfl (vOk_v n4_losses) da_nil))))) (db_one (ds_ret (de_if (dt_tru hB L.pt rfl (vOk_v n0_losses)) (de_tree df_dct0) (de_tree (df_dct (by rfl) rfl (by simp) (by decide) (dp_cons (de_attr rfl (vOk_v n0_losses)) (de_attr rfl (vOk_v n1_losses)) dp_nil)))))))⟩
def B_losses : SF := P_losses.1
def F_losses : FSem := fnD 3 4 B_losses
theorem fs_losses : FnScope N_losses ["draft", "hands", "failing"] (defScope (top 21)) := ⟨rfl, rfl, rfl, by decide +kernel, rfl, by decide +kernel, by decide +kernel⟩
/-! fewest_failing -/
def N_fewest_failing : List Str := ["draft", "hands", "hand", "many"]
def sc_fewest_failing : Scp := { defScope (top 22) with fs := fun _ => true }
theorem n0_fewest_failing : vOk N_fewest_failing sc_fewest_failing 3 "many" = true := by decide +kernel
theorem n1_fewest_failing : vOk N_fewest_failing sc_fewest_failing 0 "draft" = true := by decide +kernel
theorem n2_fewest_failing : sOk N_fewest_failing sc_fewest_failing 3 "many" = true := by decide +kernel
theorem n3_fewest_failing : gOk sc_fewest_failing "len" = true := by decide +kernel
theorem n4_fewest_failing : gOk sc_fewest_failing "asked_back" = true := by decide +kernel
theorem n5_fewest_failing : vOk N_fewest_failing sc_fewest_failing 2 "hand" = true := by decide +kernel
theorem n6_fewest_failing : vOk N_fewest_failing sc_fewest_failing 1 "hands" = true := by decide +kernel
theorem n7_fewest_failing : gOk sc_fewest_failing "check_passed" = true := by decide +kernel
def P_fewest_failing : {F : SF // ∀ W, Low fa cs W → (∀ c f, mtB c = some f → MethHas W c "__bool__" f) → (FnHas W "asked_back" F_asked_back) → (FnHas W "check_passed" F_check_passed) → DB W N_fewest_failing sc_fewest_failing (defBody (top 22)) F} := ⟨_, fun W L hB h_asked_back h_check_passed =>
  (db_cons (ds_expr rfl (e_f h_check_passed n7_fewest_failing rfl rfl (da_cons rfl (vOk_v n1_fewest_failing) (da_cons rfl (vOk_v n6_fewest_failing) (da_cons rfl (de_lst da_nil) da_nil))))) (db_cons (ds_if (dt_cmp ops_notin (by rfl) (vOk_v n5_fewest_failing) (de_lst (da_cons rfl (de_attr rfl (vOk_v n1_fewest_failing)) (da_star (vOk_v n6_fewest_failing) da_nil)))) (db_one (ds_ret de_none)) db_nil) (db_cons (s_v n2_fewest_failing rfl (e_bB cs_len boot_len L mf2 n3_fewest_failing rfl rfl (da_cons rfl (e_f h_asked_back n4_fewest_failing rfl rfl (da_cons rfl (vOk_v n1_fewest_failing) (da_cons rfl (vOk_v n6_fewest_failing) (da_cons rfl (vOk_v n5_fewest_failing) da_nil)))) da_nil))) (db_one (ds_ret (de_bin ops_add (vOk_v n0_fewest_failing) (de_if (dt_tru hB L.pt rfl (de_attr rfl (vOk_v n1_fewest_failing))) de_int de_int)))))))⟩
def B_fewest_failing : SF := P_fewest_failing.1
def F_fewest_failing : FSem := fnD 3 4 B_fewest_failing
theorem fs_fewest_failing : FnScope N_fewest_failing ["draft", "hands", "hand"] (defScope (top 22)) := ⟨rfl, rfl, rfl, by decide +kernel, rfl, by decide +kernel, by decide +kernel⟩
/-! is_integer -/
def N_is_integer : List Str := ["thing"]
def sc_is_integer : Scp := { defScope (top 7) with fs := fun _ => true }
theorem n0_is_integer : gOk sc_is_integer "isinstance" = true := by decide +kernel
theorem n1_is_integer : vOk N_is_integer sc_is_integer 0 "thing" = true := by decide +kernel
theorem n2_is_integer : gOk sc_is_integer "bool" = true := by decide +kernel
theorem n3_is_integer : gOk sc_is_integer "int" = true := by decide +kernel
def P_is_integer : {F : SF // ∀ W, Low fa cs W → (∀ c f, mtB c = some f → MethHas W c "__bool__" f) → DB W N_is_integer sc_is_integer (defBody (top 7)) F} := ⟨_, fun W L hB =>
  (db_one (ds_ret (de_and (e_isi L mf3 n0_is_integer rfl (vOk_v n1_is_integer) (ty_b PyProof.Rows.boot_int L mf13 n3_is_integer)) (de_one (de_notT hB L.pt (e_isi L mf3 n0_is_integer rfl (vOk_v n1_is_integer) (ty_b PyProof.Rows.boot_bool L mf12 n2_is_integer)))))))⟩
def B_is_integer : SF := P_is_integer.1
def F_is_integer : FSem := fnD 1 1 B_is_integer
theorem fs_is_integer : FnScope N_is_integer ["thing"] (defScope (top 7)) := ⟨rfl, rfl, rfl, by decide +kernel, rfl, by decide +kernel, by decide +kernel⟩
/-! is_number -/
def N_is_number : List Str := ["thing", "low", "high"]
def sc_is_number : Scp := { defScope (top 8) with fs := fun _ => true }
theorem n0_is_number : vOk N_is_number sc_is_number 1 "low" = true := by decide +kernel
theorem n1_is_number : vOk N_is_number sc_is_number 0 "thing" = true := by decide +kernel
theorem n2_is_number : vOk N_is_number sc_is_number 2 "high" = true := by decide +kernel
theorem n3_is_number : gOk sc_is_number "is_integer" = true := by decide +kernel
def P_is_number : {F : SF // ∀ W, Low fa cs W → (FnHas W "is_integer" F_is_integer) → DB W N_is_number sc_is_number (defBody (top 8)) F} := ⟨_, fun W L h_is_integer =>
  (db_one (ds_ret (de_and (e_f h_is_integer n3_is_number rfl rfl (da_cons rfl (vOk_v n1_is_number) da_nil)) (de_one (de_chain ops_le ops_le (by with_unfolding_all rfl) (vOk_v n0_is_number) (vOk_v n1_is_number) (vOk_v n2_is_number))))))⟩
def B_is_number : SF := P_is_number.1
def F_is_number : FSem := fnD 3 3 B_is_number
theorem fs_is_number : FnScope N_is_number ["thing", "low", "high"] (defScope (top 8)) := ⟨rfl, rfl, rfl, by decide +kernel, rfl, by decide +kernel, by decide +kernel⟩
/-! check_number -/
def N_check_number : List Str := ["part", "thing", "low", "high"]
def sc_check_number : Scp := { defScope (top 9) with fs := fun _ => true }
theorem n0_check_number : gOk sc_check_number "is_number" = true := by decide +kernel
theorem n1_check_number : vOk N_check_number sc_check_number 3 "high" = true := by decide +kernel
theorem n2_check_number : vOk N_check_number sc_check_number 2 "low" = true := by decide +kernel
theorem n3_check_number : vOk N_check_number sc_check_number 1 "thing" = true := by decide +kernel
def P_check_number : {F : SF // ∀ W, Low fa cs W → (∀ c f, mtB c = some f → MethHas W c "__bool__" f) → (FnHas W "is_number" F_is_number) → DB W N_check_number sc_check_number (defBody (top 9)) F} := ⟨_, fun W L hB h_is_number =>
  (db_one (ds_if (dt_not (dt_tru hB L.pt rfl (e_f h_is_number n0_check_number rfl rfl (da_cons rfl (vOk_v n3_check_number) (da_cons rfl (vOk_v n2_check_number) (da_cons rfl (vOk_v n1_check_number) da_nil)))))) (db_one ds_never) db_nil))⟩
def B_check_number : SF := P_check_number.1
def F_check_number : FSem := fnD 4 4 B_check_number
theorem fs_check_number : FnScope N_check_number ["part", "thing", "low", "high"] (defScope (top 9)) := ⟨rfl, rfl, rfl, by decide +kernel, rfl, by decide +kernel, by decide +kernel⟩
/-! check_name -/
def N_check_name : List Str := ["part", "thing"]
def sc_check_name : Scp := { defScope (top 11) with fs := fun _ => true }
theorem n0_check_name : gOk sc_check_name "is_name" = true := by decide +kernel
theorem n1_check_name : vOk N_check_name sc_check_name 1 "thing" = true := by decide +kernel
def P_check_name : {F : SF // ∀ W, Low fa cs W → (∀ c f, mtB c = some f → MethHas W c "__bool__" f) → (FnHas W "is_name" F_is_name) → DB W N_check_name sc_check_name (defBody (top 11)) F} := ⟨_, fun W L hB h_is_name =>
  (db_one (ds_if (dt_not (dt_tru hB L.pt rfl (e_f h_is_name n0_check_name rfl rfl (da_cons rfl (vOk_v n1_check_name) da_nil)))) (db_one ds_never) db_nil))⟩
def B_check_name : SF := P_check_name.1
def F_check_name : FSem := fnD 2 2 B_check_name
theorem fs_check_name : FnScope N_check_name ["part", "thing"] (defScope (top 11)) := ⟨rfl, rfl, rfl, by decide +kernel, rfl, by decide +kernel, by decide +kernel⟩
/-! Draft.__init__ -/
def N_Draft___init__ : List Str := ["self", "money", "drawer", "payer", "due", "is_taken"]
def sc_Draft___init__ : Scp := { defScope ((inClass (top 14) 0)) with fs := fun _ => true }
theorem n0_Draft___init__ : vOk N_Draft___init__ sc_Draft___init__ 0 "self" = true := by decide +kernel
theorem n1_Draft___init__ : vOk N_Draft___init__ sc_Draft___init__ 5 "is_taken" = true := by decide +kernel
theorem n2_Draft___init__ : vOk N_Draft___init__ sc_Draft___init__ 4 "due" = true := by decide +kernel
theorem n3_Draft___init__ : vOk N_Draft___init__ sc_Draft___init__ 3 "payer" = true := by decide +kernel
theorem n4_Draft___init__ : vOk N_Draft___init__ sc_Draft___init__ 2 "drawer" = true := by decide +kernel
theorem n5_Draft___init__ : vOk N_Draft___init__ sc_Draft___init__ 1 "money" = true := by decide +kernel
theorem n6_Draft___init__ : gOk sc_Draft___init__ "isinstance" = true := by decide +kernel
theorem n7_Draft___init__ : gOk sc_Draft___init__ "bool" = true := by decide +kernel
theorem n8_Draft___init__ : gOk sc_Draft___init__ "check_number" = true := by decide +kernel
theorem n9_Draft___init__ : gOk sc_Draft___init__ "check_name" = true := by decide +kernel
def P_Draft___init__ : {F : SF // ∀ W, Low fa cs W → (∀ c f, mtB c = some f → MethHas W c "__bool__" f) → (FnHas W "check_number" F_check_number) → (FnHas W "check_name" F_check_name) → DB W N_Draft___init__ sc_Draft___init__ (defBody ((inClass (top 14) 0))) F} := ⟨_, fun W L hB h_check_number h_check_name =>
  (db_cons (ds_expr rfl (e_f h_check_number n8_Draft___init__ rfl rfl (da_cons rfl de_str (da_cons rfl (vOk_v n5_Draft___init__) (da_cons rfl de_int (da_cons rfl de_int da_nil)))))) (db_cons (ds_expr rfl (e_f h_check_name n9_Draft___init__ rfl rfl (da_cons rfl de_str (da_cons rfl (vOk_v n4_Draft___init__) da_nil)))) (db_cons (ds_expr rfl (e_f h_check_name n9_Draft___init__ rfl rfl (da_cons rfl de_str (da_cons rfl (vOk_v n3_Draft___init__) da_nil)))) (db_cons (ds_if (dt_cmp ops_eq (by rfl) (vOk_v n4_Draft___init__) (vOk_v n3_Draft___init__)) (db_one ds_never) db_nil) (db_cons (ds_expr rfl (e_f h_check_number n8_Draft___init__ rfl rfl (da_cons rfl de_str (da_cons rfl (vOk_v n2_Draft___init__) (da_cons rfl de_int (da_cons rfl de_int da_nil)))))) (db_cons (ds_if (dt_not (dt_tru hB L.pt rfl (e_isi L mf3 n6_Draft___init__ rfl (vOk_v n1_Draft___init__) (ty_b PyProof.Rows.boot_bool L mf12 n7_Draft___init__)))) (db_one ds_never) db_nil) (db_cons (s_t rfl rfl (by decide +kernel) (dg_fld L.na (vOk_v n0_Draft___init__)) (vOk_v n5_Draft___init__)) (db_cons (s_t rfl rfl (by decide +kernel) (dg_fld L.na (vOk_v n0_Draft___init__)) (vOk_v n4_Draft___init__)) (db_cons (s_t rfl rfl (by decide +kernel) (dg_fld L.na (vOk_v n0_Draft___init__)) (vOk_v n3_Draft___init__)) (db_cons (s_t rfl rfl (by decide +kernel) (dg_fld L.na (vOk_v n0_Draft___init__)) (vOk_v n2_Draft___init__)) (db_one (s_t rfl rfl (by decide +kernel) (dg_fld L.na (vOk_v n0_Draft___init__)) (vOk_v n1_Draft___init__)))))))))))))⟩
def B_Draft___init__ : SF := P_Draft___init__.1
def F_Draft___init__ : FSem := fnD 6 6 B_Draft___init__
theorem fs_Draft___init__ : FnScope N_Draft___init__ ["self", "money", "drawer", "payer", "due", "is_taken"] (defScope ((inClass (top 14) 0))) := ⟨rfl, rfl, rfl, by decide +kernel, rfl, by decide +kernel, by decide +kernel⟩
/-! _law_number -/
def N__law_number : List Str := ["script", "index", "cell", "turn", "rest", "step", "blend"]
def sc__law_number : Scp := { defScope (top 24) with fs := fun _ => true }
theorem n0__law_number : gOk sc__law_number "int" = true := by decide +kernel
theorem n1__law_number : vOk N__law_number sc__law_number 6 "blend" = true := by decide +kernel
theorem n2__law_number : sOk N__law_number sc__law_number 6 "blend" = true := by decide +kernel
theorem n3__law_number : vOk N__law_number sc__law_number 1 "index" = true := by decide +kernel
theorem n4__law_number : vOk N__law_number sc__law_number 2 "cell" = true := by decide +kernel
theorem n5__law_number : gOk sc__law_number "len" = true := by decide +kernel
theorem n6__law_number : vOk N__law_number sc__law_number 0 "script" = true := by decide +kernel
theorem n7__law_number : vOk N__law_number sc__law_number 4 "rest" = true := by decide +kernel
theorem n8__law_number : gOk sc__law_number "range" = true := by decide +kernel
theorem n9__law_number : vOk N__law_number sc__law_number 3 "turn" = true := by decide +kernel
theorem n10__law_number : sOk N__law_number sc__law_number 5 "step" = true := by decide +kernel
theorem n11__law_number : sOk N__law_number sc__law_number 4 "rest" = true := by decide +kernel
theorem n12__law_number : sOk N__law_number sc__law_number 3 "turn" = true := by decide +kernel
theorem n13__law_number : sOk N__law_number sc__law_number 2 "cell" = true := by decide +kernel
def P__law_number : {F : SF // ∀ W, Low fa cs W → DB W N__law_number sc__law_number (defBody (top 24)) F} := ⟨_, fun W L =>
  (db_cons (s_t rfl rfl (by decide +kernel) (dg_tup rfl (dgs_cons rfl (g_v n13__law_number) (dgs_cons rfl (g_v n12__law_number) dgs_nil))) (de_if (dt_cmp ops_ne (by rfl) (vOk_v n6__law_number) (de_lst da_nil)) (de_tup (da_cons rfl (de_idx rfl (vOk_v n6__law_number) (de_bin ops_mod (vOk_v n3__law_number) (e_bB cs_len boot_len L mf2 n5__law_number rfl rfl (da_cons rfl (vOk_v n6__law_number) da_nil)))) (da_cons rfl (de_bin ops_div (vOk_v n3__law_number) (e_bB cs_len boot_len L mf2 n5__law_number rfl rfl (da_cons rfl (vOk_v n6__law_number) da_nil))) da_nil))) (de_tup (da_cons rfl de_int (da_cons rfl de_int da_nil))))) (db_cons (s_v n11__law_number rfl (de_if (dt_cmp ops_lt (by rfl) (vOk_v n9__law_number) de_int) (de_bin ops_sub (vOk_v n4__law_number) (de_bin ops_pow de_int de_int)) de_int)) (db_cons (ds_for rfl (i_r1 L mf0 n8__law_number rfl (de_bin ops_mod (e_bT cs_int PyProof.Rows.boot_int L mf13 n0__law_number rfl rfl (da_cons rfl (vOk_v n9__law_number) da_nil)) de_int)) (g_v n10__law_number) (db_one (s_v n11__law_number rfl (de_bin ops_div (vOk_v n7__law_number) de_int)))) (db_cons (ds_if (dt_cmp ops_gt (by rfl) (vOk_v n7__law_number) de_int) (db_one (ds_ret (de_bin ops_mod (e_bT cs_int PyProof.Rows.boot_int L mf13 n0__law_number rfl rfl (da_cons rfl (vOk_v n7__law_number) da_nil)) de_int))) db_nil) (db_cons (s_v n2__law_number rfl (de_bin ops_mod (de_bin ops_add (de_bin ops_mul (e_bT cs_int PyProof.Rows.boot_int L mf13 n0__law_number rfl rfl (da_cons rfl (de_bin ops_add (vOk_v n4__law_number) (de_bin ops_mul de_int (vOk_v n3__law_number))) da_nil)) de_int) (de_bin ops_mul de_int (e_bB cs_len boot_len L mf2 n5__law_number rfl rfl (da_cons rfl (vOk_v n6__law_number) da_nil)))) de_int)) (db_cons (s_v n2__law_number rfl (de_bin ops_mod (de_bin ops_add (de_bin ops_mul (vOk_v n1__law_number) (vOk_v n1__law_number)) (de_bin ops_mul de_int (vOk_v n3__law_number))) de_int)) (db_one (ds_ret (e_bT cs_int PyProof.Rows.boot_int L mf13 n0__law_number rfl rfl (da_cons rfl (de_bin ops_mod (de_bin ops_add (de_bin ops_mul (vOk_v n1__law_number) de_int) (de_bin ops_div (vOk_v n1__law_number) de_int)) de_int) da_nil))))))))))⟩
def B__law_number : SF := P__law_number.1
def F__law_number : FSem := fnD 2 7 B__law_number
theorem fs__law_number : FnScope N__law_number ["script", "index"] (defScope (top 24)) := ⟨rfl, rfl, rfl, by decide +kernel, rfl, by decide +kernel, by decide +kernel⟩
/-! _law_take -/
def N__law_take : List Str := ["draw", "many"]
def sc__law_take : Scp := { defScope (top 25) with fs := fun _ => true }
theorem n0__law_take : gOk sc__law_take "int" = true := by decide +kernel
theorem n1__law_take : gOk sc__law_take "_law_number" = true := by decide +kernel
theorem n2__law_take : vOk N__law_take sc__law_take 0 "draw" = true := by decide +kernel
theorem n3__law_take : vOk N__law_take sc__law_take 1 "many" = true := by decide +kernel
def P__law_take : {F : SF // ∀ W, Low fa cs W → (FnHas W "_law_number" F__law_number) → DB W N__law_take sc__law_take (defBody (top 25)) F} := ⟨_, fun W L h__law_number =>
  (db_cons (ds_augS ops_iadd rfl (vOk_v n2__law_take) de_int de_int) (db_one (ds_ret (de_bin ops_mod (e_bT cs_int PyProof.Rows.boot_int L mf13 n0__law_take rfl rfl (da_cons rfl (e_f h__law_number n1__law_take rfl rfl (da_cons rfl (de_idx rfl (vOk_v n2__law_take) de_int) (da_cons rfl (e_bT cs_int PyProof.Rows.boot_int L mf13 n0__law_take rfl rfl (da_cons rfl (de_idx rfl (vOk_v n2__law_take) de_int) da_nil)) da_nil))) da_nil)) (vOk_v n3__law_take)))))⟩
def B__law_take : SF := P__law_take.1
def F__law_take : FSem := fnD 2 2 B__law_take
theorem fs__law_take : FnScope N__law_take ["draw", "many"] (defScope (top 25)) := ⟨rfl, rfl, rfl, by decide +kernel, rfl, by decide +kernel, by decide +kernel⟩
/-! law -/
def N_law : List Str := ["script", "draw", "turn", "at", "hands", "is_taken", "draft", "rows", "hand", "counts", "backs", "pays", "failing", "found", "many", "ways", "due"]
def sc_law : Scp := { defScope (top 28) with fs := fun _ => true }
def cs0_law : Scope := { kind := .function, names := [(PySem.Str.ofString ".0", .local), (PySem.Str.ofString "hand", .local)], isGenerator := false, isCoroutine := false, more := [] }
def cs1_law : Scope := { kind := .function, names := [(PySem.Str.ofString ".0", .local), (PySem.Str.ofString "at", .local), (PySem.Str.ofString "str", .globalImplicit)], isGenerator := false, isCoroutine := false, more := [] }
theorem n0_law : gOk sc_law "range" = true := by decide +kernel
theorem n1_law : sOk N_law sc_law 2 "turn" = true := by decide +kernel
theorem n2_law : vOk N_law sc_law 10 "backs" = true := by decide +kernel
theorem n3_law : vOk N_law sc_law 14 "many" = true := by decide +kernel
theorem n4_law : gOk sc_law "_law_power" = true := by decide +kernel
theorem n5_law : vOk N_law sc_law 15 "ways" = true := by decide +kernel
theorem n6_law : gOk sc_law "enumerate" = true := by decide +kernel
theorem n7_law : vOk N_law sc_law 7 "rows" = true := by decide +kernel
theorem n8_law : sOk N_law sc_law 8 "hand" = true := by decide +kernel
theorem n9_law : sOk N_law sc_law 3 "at" = true := by decide +kernel
theorem n10_law : vOk N_law sc_law 9 "counts" = true := by decide +kernel
theorem n11_law : vOk N_law sc_law 8 "hand" = true := by decide +kernel
theorem n12_law : vOk N_law sc_law 16 "due" = true := by decide +kernel
theorem n13_law : sOk N_law sc_law 16 "due" = true := by decide +kernel
theorem n14_law : vOk N_law sc_law 3 "at" = true := by decide +kernel
theorem n15_law : vOk N_law sc_law 11 "pays" = true := by decide +kernel
theorem n16_law : vOk N_law sc_law 5 "is_taken" = true := by decide +kernel
theorem n17_law : gOk sc_law "len" = true := by decide +kernel
theorem n18_law : lOk N_law sc_law 14 "many" = true := by decide +kernel
theorem n19_law : lOk N_law sc_law 15 "ways" = true := by decide +kernel
theorem n20_law : gOk sc_law "_law_sets" = true := by decide +kernel
theorem n21_law : sOk N_law sc_law 12 "failing" = true := by decide +kernel
theorem n22_law : vOk N_law sc_law 13 "found" = true := by decide +kernel
theorem n23_law : sOk N_law sc_law 11 "pays" = true := by decide +kernel
theorem n24_law : gOk sc_law "losses" = true := by decide +kernel
theorem n25_law : vOk N_law sc_law 12 "failing" = true := by decide +kernel
theorem n26_law : vOk N_law sc_law 4 "hands" = true := by decide +kernel
theorem n27_law : vOk N_law sc_law 6 "draft" = true := by decide +kernel
theorem n28_law : gOk sc_law "fewest_failing" = true := by decide +kernel
theorem n29_law : sOk N_law sc_law 10 "backs" = true := by decide +kernel
theorem n30_law : sOk N_law sc_law 13 "found" = true := by decide +kernel
theorem n31_law : gOk sc_law "judge_draft" = true := by decide +kernel
theorem n32_law : gOk sc_law "dict" = true := by decide +kernel
theorem n33_law : BlkOk N_law (sc_law : Scp).toScope cs0_law [(PySem.Str.ofString "hand", 8)] := ⟨rfl, by decide +kernel, by decide +kernel, by decide +kernel, by decide +kernel⟩
theorem n34_law : sOk N_law (blkS cs0_law sc_law) 8 "hand" = true := by decide +kernel
theorem n35_law : vOk N_law (blkS cs0_law sc_law) 8 "hand" = true := by decide +kernel
theorem n36_law : lOk N_law sc_law 9 "counts" = true := by decide +kernel
theorem n37_law : lOk N_law sc_law 10 "backs" = true := by decide +kernel
theorem n38_law : lOk N_law sc_law 11 "pays" = true := by decide +kernel
theorem n39_law : gOk sc_law "Draft" = true := by decide +kernel
theorem n40_law : lOk N_law sc_law 6 "draft" = true := by decide +kernel
theorem n41_law : lOk N_law sc_law 7 "rows" = true := by decide +kernel
theorem n42_law : gOk sc_law "_law_take" = true := by decide +kernel
theorem n43_law : vOk N_law sc_law 1 "draw" = true := by decide +kernel
theorem n44_law : BlkOk N_law (sc_law : Scp).toScope cs1_law [(PySem.Str.ofString "at", 3)] := ⟨rfl, by decide +kernel, by decide +kernel, by decide +kernel, by decide +kernel⟩
theorem n45_law : sOk N_law (blkS cs1_law sc_law) 3 "at" = true := by decide +kernel
theorem n46_law : gOk (blkS cs1_law sc_law) "str" = true := by decide +kernel
theorem n47_law : vOk N_law (blkS cs1_law sc_law) 3 "at" = true := by decide +kernel
theorem n48_law : lOk N_law sc_law 4 "hands" = true := by decide +kernel
theorem n49_law : lOk N_law sc_law 5 "is_taken" = true := by decide +kernel
theorem n50_law : sOk N_law sc_law 1 "draw" = true := by decide +kernel
theorem n51_law : vOk N_law sc_law 0 "script" = true := by decide +kernel
def P_law : {F : SF // ∀ W, Low fa cs W → (FnHas W "_law_power" F__law_power) → (∀ c f, mtB c = some f → MethHas W c "__bool__" f) → (FnHas W "_law_sets" F__law_sets) → (FnHas W "losses" F_losses) → (FnHas W "fewest_failing" F_fewest_failing) → (FnHas W "judge_draft" F_judge_draft) → (MkHas W "Draft" F_Draft___init__) → (FnHas W "_law_take" F__law_take) → DB W N_law sc_law (defBody (top 28)) F} := ⟨_, fun W L h__law_power hB h__law_sets h_losses h_fewest_failing h_judge_draft k_Draft h__law_take =>
  (db_cons (s_v n50_law rfl (de_live (df_lst (da_cons rfl (vOk_v n51_law) (da_cons rfl de_int da_nil))))) (db_cons (ds_for rfl (i_r1 L mf0 n0_law rfl de_int) (g_v n1_law) (db_cons (s_p2 n48_law n49_law (by decide) (by decide +kernel) (da_cons rfl (de_tree (de_lc n44_law rfl (i_r1 L mf0 n0_law rfl (e_f h__law_take n42_law rfl rfl (da_cons rfl (vOk_v n43_law) (da_cons rfl de_int da_nil)))) (gc_v n45_law (by decide)) dts_nil (de_bin ops_add de_str (e_bT cs_str PyProof.Rows.boot_str L mf9 n46_law rfl rfl (da_cons rfl (vOk_v n47_law) da_nil))))) (da_cons rfl (de_cmp ops_eq (by rfl) (e_f h__law_take n42_law rfl rfl (da_cons rfl (vOk_v n43_law) (da_cons rfl de_int da_nil))) de_int) da_nil))) (db_cons (s_p2 n40_law n41_law (by decide) (by decide +kernel) (da_cons rfl (de_drop (e_m k_Draft n39_law rfl rfl (da_cons rfl de_int (da_cons rfl de_str (da_cons rfl de_str (da_cons rfl de_int (da_cons rfl (vOk_v n16_law) da_nil))))))) (da_cons rfl (de_bin ops_add (de_lst (da_cons rfl de_str da_nil)) (vOk_v n26_law)) da_nil))) (db_cons (s_p3 n36_law n37_law n38_law (by decide) (by decide) (by decide) (by decide +kernel) (da_cons rfl (de_live (f_bT cf_dict PyProof.Rows.boot_dict L mf11 n32_law rfl rfl (da_cons rfl (de_tree (de_lc n33_law rfl (di_seq (vOk_v n7_law)) (gc_v n34_law (by decide)) dts_nil (de_tup (da_cons rfl (vOk_v n35_law) (da_cons rfl de_int da_nil))))) da_nil))) (da_cons rfl de_int (da_cons rfl de_int da_nil)))) (db_cons (ds_for rfl (di_seq (e_f h__law_sets n20_law rfl rfl (da_cons rfl (de_bin ops_add (vOk_v n7_law) (de_lst (da_cons rfl de_str da_nil))) da_nil))) (g_v n21_law) (db_cons (s_v n30_law rfl (e_f h_judge_draft n31_law rfl rfl (da_cons rfl (vOk_v n27_law) (da_cons rfl (vOk_v n26_law) (da_cons rfl (vOk_v n25_law) da_nil))))) (db_one (ds_if (dt_tru hB L.pt rfl (vOk_v n22_law)) (db_one (s_v n23_law rfl (de_bin ops_add (vOk_v n15_law) de_int))) (db_cons (s_t rfl rfl (by decide +kernel) (dg_tup rfl (dgs_cons rfl (dg_sub rfl (vOk_v n10_law) (de_attr rfl (vOk_v n22_law))) (dgs_cons rfl (g_v n29_law) dgs_nil))) (de_tup (da_cons rfl (de_bin ops_add (de_idx rfl (vOk_v n10_law) (de_attr rfl (vOk_v n22_law))) de_int) (da_cons rfl (de_bin ops_add (vOk_v n2_law) (e_bB cs_len boot_len L mf2 n17_law rfl rfl (da_cons rfl (de_attr rfl (vOk_v n22_law)) da_nil))) da_nil)))) (db_one (ds_if (t_w (w_o (dt_cmp ops_lt (by rfl) (e_bB cs_len boot_len L mf2 n17_law rfl rfl (da_cons rfl (vOk_v n25_law) da_nil)) (e_f h_fewest_failing n28_law rfl rfl (da_cons rfl (vOk_v n27_law) (da_cons rfl (vOk_v n26_law) (da_cons rfl (de_attr rfl (vOk_v n22_law)) da_nil))))) (w_o1 (dt_cmp ops_ne (by rfl) (e_f h_losses n24_law rfl rfl (da_cons rfl (vOk_v n27_law) (da_cons rfl (vOk_v n26_law) (da_cons rfl (vOk_v n25_law) da_nil)))) (de_tree (df_dct (by rfl) rfl (by simp) (by decide) (dp_cons (de_attr rfl (vOk_v n22_law)) de_int dp_nil))))))) (db_one (ds_ret de_bool)) db_nil))))))) (db_cons (s_p2 n18_law n19_law (by decide) (by decide +kernel) (da_cons rfl (e_bB cs_len boot_len L mf2 n17_law rfl rfl (da_cons rfl (vOk_v n7_law) da_nil)) (da_cons rfl (de_if (dt_tru hB L.pt rfl (vOk_v n16_law)) de_int de_int) da_nil))) (db_cons (ds_if (dt_cmp ops_ne (by rfl) (vOk_v n15_law) (de_if (dt_tru hB L.pt rfl (vOk_v n16_law)) (e_f h__law_power n4_law rfl rfl (da_cons rfl (vOk_v n3_law) da_nil)) de_int)) (db_one (ds_ret de_bool)) db_nil) (db_cons (ds_for rfl (i_en L mf1 n6_law rfl (vOk_v n7_law)) (dg_tup rfl (dgs_cons rfl (g_v n9_law) (dgs_cons rfl (g_v n8_law) dgs_nil))) (db_cons (s_v n13_law rfl (de_if (dt_cmp ops_lt (by rfl) (vOk_v n14_law) (de_bin ops_sub (vOk_v n3_law) de_int)) (e_f h__law_power n4_law rfl rfl (da_cons rfl (de_bin ops_sub (de_bin ops_sub (vOk_v n3_law) de_int) (vOk_v n14_law)) da_nil)) de_int)) (db_one (ds_if (dt_cmp ops_ne (by rfl) (de_idx rfl (vOk_v n10_law) (vOk_v n11_law)) (de_bin ops_mul (vOk_v n12_law) (vOk_v n5_law))) (db_one (ds_ret de_bool)) db_nil)))) (db_one (ds_if (dt_cmp ops_ne (by rfl) (vOk_v n2_law) (de_bin ops_mul (de_bin ops_mul (de_bin ops_sub (vOk_v n3_law) de_int) (e_f h__law_power n4_law rfl rfl (da_cons rfl (de_bin ops_sub (vOk_v n3_law) de_int) da_nil))) (vOk_v n5_law))) (db_one (ds_ret de_bool)) db_nil)))))))))) (db_one (ds_ret de_bool))))⟩
def B_law : SF := P_law.1
def F_law : FSem := fnD 1 17 B_law
theorem fs_law : FnScope N_law ["script"] (defScope (top 28)) := ⟨rfl, rfl, rfl, by decide +kernel, rfl, by decide +kernel, by decide +kernel⟩
end K66
namespace K66
open PySem L2 G
@[simp] theorem na15 : naT fa "Paid" "hand" = true := by decide +kernel
@[simp] theorem na19 : naT fa "Bears" "hand" = true := by decide +kernel
@[simp] theorem na20 : naT fa "Bears" "way" = true := by decide +kernel
@[simp] theorem na23 : naT fa "Draft" "money" = true := by decide +kernel
@[simp] theorem na24 : naT fa "Draft" "drawer" = true := by decide +kernel
@[simp] theorem na25 : naT fa "Draft" "payer" = true := by decide +kernel
@[simp] theorem na26 : naT fa "Draft" "due" = true := by decide +kernel
@[simp] theorem na27 : naT fa "Draft" "is_taken" = true := by decide +kernel
@[simp] theorem pt29 : ptT fa "Draft" = true := by decide +kernel
@[simp] theorem ic30 : icT fa "Paid" = true := by decide +kernel
@[simp] theorem ic31 : icT fa "Bears" = true := by decide +kernel
@[simp] theorem ic32 : icT fa "Draft" = true := by decide +kernel
@[simp] theorem kt33 : kitT fa (.bt "NoneType") (.bt "bool") = some false := by decide +kernel
@[simp] theorem kt34 : kitT fa (.bt "NoneType") (.bt "int") = some false := by decide +kernel
@[simp] theorem kt35 : kitT fa (.bt "NoneType") (.bt "list") = some false := by decide +kernel
@[simp] theorem kt36 : kitT fa (.bt "NoneType") (.bt "str") = some false := by decide +kernel
@[simp] theorem kt37 : kitT fa (.bt "NoneType") (.bt "tuple") = some false := by decide +kernel
@[simp] theorem kt38 : kitT fa (.bt "NoneType") (.cl "Draft") = some false := by decide +kernel
@[simp] theorem kt39 : kitT fa (.bt "bool") (.bt "bool") = some true := by decide +kernel
@[simp] theorem kt40 : kitT fa (.bt "bool") (.bt "int") = some true := by decide +kernel
@[simp] theorem kt41 : kitT fa (.bt "bool") (.bt "list") = some false := by decide +kernel
@[simp] theorem kt42 : kitT fa (.bt "bool") (.bt "str") = some false := by decide +kernel
@[simp] theorem kt43 : kitT fa (.bt "bool") (.bt "tuple") = some false := by decide +kernel
@[simp] theorem kt44 : kitT fa (.bt "bool") (.cl "Draft") = some false := by decide +kernel
@[simp] theorem kt45 : kitT fa (.bt "int") (.bt "bool") = some false := by decide +kernel
@[simp] theorem kt46 : kitT fa (.bt "int") (.bt "int") = some true := by decide +kernel
@[simp] theorem kt47 : kitT fa (.bt "int") (.bt "list") = some false := by decide +kernel
@[simp] theorem kt48 : kitT fa (.bt "int") (.bt "str") = some false := by decide +kernel
@[simp] theorem kt49 : kitT fa (.bt "int") (.bt "tuple") = some false := by decide +kernel
@[simp] theorem kt50 : kitT fa (.bt "int") (.cl "Draft") = some false := by decide +kernel
@[simp] theorem kt51 : kitT fa (.bt "str") (.bt "bool") = some false := by decide +kernel
@[simp] theorem kt52 : kitT fa (.bt "str") (.bt "int") = some false := by decide +kernel
@[simp] theorem kt53 : kitT fa (.bt "str") (.bt "list") = some false := by decide +kernel
@[simp] theorem kt54 : kitT fa (.bt "str") (.bt "str") = some true := by decide +kernel
@[simp] theorem kt55 : kitT fa (.bt "str") (.bt "tuple") = some false := by decide +kernel
@[simp] theorem kt56 : kitT fa (.bt "str") (.cl "Draft") = some false := by decide +kernel
@[simp] theorem kt57 : kitT fa (.bt "tuple") (.bt "bool") = some false := by decide +kernel
@[simp] theorem kt58 : kitT fa (.bt "tuple") (.bt "int") = some false := by decide +kernel
@[simp] theorem kt59 : kitT fa (.bt "tuple") (.bt "list") = some false := by decide +kernel
@[simp] theorem kt60 : kitT fa (.bt "tuple") (.bt "str") = some false := by decide +kernel
@[simp] theorem kt61 : kitT fa (.bt "tuple") (.bt "tuple") = some true := by decide +kernel
@[simp] theorem kt62 : kitT fa (.bt "tuple") (.cl "Draft") = some false := by decide +kernel
@[simp] theorem kt63 : kitT fa (.bt "list") (.bt "bool") = some false := by decide +kernel
@[simp] theorem kt64 : kitT fa (.bt "list") (.bt "int") = some false := by decide +kernel
@[simp] theorem kt65 : kitT fa (.bt "list") (.bt "list") = some true := by decide +kernel
@[simp] theorem kt66 : kitT fa (.bt "list") (.bt "str") = some false := by decide +kernel
@[simp] theorem kt67 : kitT fa (.bt "list") (.bt "tuple") = some false := by decide +kernel
@[simp] theorem kt68 : kitT fa (.bt "list") (.cl "Draft") = some false := by decide +kernel
@[simp] theorem kt69 : kitT fa (.bt "dict") (.bt "bool") = some false := by decide +kernel
@[simp] theorem kt70 : kitT fa (.bt "dict") (.bt "int") = some false := by decide +kernel
@[simp] theorem kt71 : kitT fa (.bt "dict") (.bt "list") = some false := by decide +kernel
@[simp] theorem kt72 : kitT fa (.bt "dict") (.bt "str") = some false := by decide +kernel
@[simp] theorem kt73 : kitT fa (.bt "dict") (.bt "tuple") = some false := by decide +kernel
@[simp] theorem kt74 : kitT fa (.bt "dict") (.cl "Draft") = some false := by decide +kernel
@[simp] theorem kt75 : kitT fa (.cl "Paid") (.bt "bool") = some false := by decide +kernel
@[simp] theorem kt76 : kitT fa (.cl "Paid") (.bt "int") = some false := by decide +kernel
@[simp] theorem kt77 : kitT fa (.cl "Paid") (.bt "list") = some false := by decide +kernel
@[simp] theorem kt78 : kitT fa (.cl "Paid") (.bt "str") = some false := by decide +kernel
@[simp] theorem kt79 : kitT fa (.cl "Paid") (.bt "tuple") = some false := by decide +kernel
@[simp] theorem kt80 : kitT fa (.cl "Paid") (.cl "Draft") = some false := by decide +kernel
@[simp] theorem kt81 : kitT fa (.cl "Bears") (.bt "bool") = some false := by decide +kernel
@[simp] theorem kt82 : kitT fa (.cl "Bears") (.bt "int") = some false := by decide +kernel
@[simp] theorem kt83 : kitT fa (.cl "Bears") (.bt "list") = some false := by decide +kernel
@[simp] theorem kt84 : kitT fa (.cl "Bears") (.bt "str") = some false := by decide +kernel
@[simp] theorem kt85 : kitT fa (.cl "Bears") (.bt "tuple") = some false := by decide +kernel
@[simp] theorem kt86 : kitT fa (.cl "Bears") (.cl "Draft") = some false := by decide +kernel
@[simp] theorem kt87 : kitT fa (.cl "Draft") (.bt "bool") = some false := by decide +kernel
@[simp] theorem kt88 : kitT fa (.cl "Draft") (.bt "int") = some false := by decide +kernel
@[simp] theorem kt89 : kitT fa (.cl "Draft") (.bt "list") = some false := by decide +kernel
@[simp] theorem kt90 : kitT fa (.cl "Draft") (.bt "str") = some false := by decide +kernel
@[simp] theorem kt91 : kitT fa (.cl "Draft") (.bt "tuple") = some false := by decide +kernel
@[simp] theorem kt92 : kitT fa (.cl "Draft") (.cl "Draft") = some true := by decide +kernel
@[simp] theorem mtB_Paid : mtB "Paid" = some F_Paid___bool__ := by unfold mtB; simp (decide := true)
@[simp] theorem mtB_Bears : mtB "Bears" = some F_Bears___bool__ := by unfold mtB; simp (decide := true)
end K66
namespace K66
open PySem L2 G
def d_Paid___bool__ : He.DefD := ⟨("Paid", some "__bool__"), "__bool__", "Paid.__bool__", defArgs (inClass (top 15) 1), defBody (inClass (top 15) 1), defScope (inClass (top 15) 1), [], []⟩
def d_Bears___bool__ : He.DefD := ⟨("Bears", some "__bool__"), "__bool__", "Bears.__bool__", defArgs (inClass (top 16) 1), defBody (inClass (top 16) 1), defScope (inClass (top 16) 1), [], []⟩
def d__law_power : He.DefD := ⟨("_law_power", none), "_law_power", "_law_power", defArgs (top 26), defBody (top 26), defScope (top 26), [], []⟩
def d__law_sets : He.DefD := ⟨("_law_sets", none), "_law_sets", "_law_sets", defArgs (top 27), defBody (top 27), defScope (top 27), [], []⟩
def d_is_row : He.DefD := ⟨("is_row", none), "is_row", "is_row", defArgs (top 12), defBody (top 12), defScope (top 12), [], []⟩
def d_Bears___init__ : He.DefD := ⟨("Bears", some "__init__"), "__init__", "Bears.__init__", defArgs (inClass (top 16) 0), defBody (inClass (top 16) 0), defScope (inClass (top 16) 0), [], []⟩
def d_is_name : He.DefD := ⟨("is_name", none), "is_name", "is_name", defArgs (top 10), defBody (top 10), defScope (top 10), [], []⟩
def d_check_passed : He.DefD := ⟨("check_passed", none), "check_passed", "check_passed", defArgs (top 17), defBody (top 17), defScope (top 17), [], []⟩
def d_asked_back : He.DefD := ⟨("asked_back", none), "asked_back", "asked_back", defArgs (top 19), defBody (top 19), defScope (top 19), [], []⟩
def d_Paid___init__ : He.DefD := ⟨("Paid", some "__init__"), "__init__", "Paid.__init__", defArgs (inClass (top 15) 0), defBody (inClass (top 15) 0), defScope (inClass (top 15) 0), [], []⟩
def d_holder_of : He.DefD := ⟨("holder_of", none), "holder_of", "holder_of", defArgs (top 18), defBody (top 18), defScope (top 18), [], []⟩
def d_judge_draft : He.DefD := ⟨("judge_draft", none), "judge_draft", "judge_draft", defArgs (top 20), defBody (top 20), defScope (top 20), [], []⟩
def d_losses : He.DefD := ⟨("losses", none), "losses", "losses", defArgs (top 21), defBody (top 21), defScope (top 21), [], []⟩
def d_fewest_failing : He.DefD := ⟨("fewest_failing", none), "fewest_failing", "fewest_failing", defArgs (top 22), defBody (top 22), defScope (top 22), [], []⟩
def d_is_integer : He.DefD := ⟨("is_integer", none), "is_integer", "is_integer", defArgs (top 7), defBody (top 7), defScope (top 7), [], []⟩
def d_is_number : He.DefD := ⟨("is_number", none), "is_number", "is_number", defArgs (top 8), defBody (top 8), defScope (top 8), [], []⟩
def d_check_number : He.DefD := ⟨("check_number", none), "check_number", "check_number", defArgs (top 9), defBody (top 9), defScope (top 9), [], []⟩
def d_check_name : He.DefD := ⟨("check_name", none), "check_name", "check_name", defArgs (top 11), defBody (top 11), defScope (top 11), [], []⟩
def d_Draft___init__ : He.DefD := ⟨("Draft", some "__init__"), "__init__", "Draft.__init__", defArgs (inClass (top 14) 0), defBody (inClass (top 14) 0), defScope (inClass (top 14) 0), [], []⟩
def d__law_number : He.DefD := ⟨("_law_number", none), "_law_number", "_law_number", defArgs (top 24), defBody (top 24), defScope (top 24), [], []⟩
def d__law_take : He.DefD := ⟨("_law_take", none), "_law_take", "_law_take", defArgs (top 25), defBody (top 25), defScope (top 25), [], []⟩
def d_law : He.DefD := ⟨("law", none), "law", "law", defArgs (top 28), defBody (top 28), defScope (top 28), [], []⟩
def fn : List He.DefD := [d_Paid___bool__, d_Bears___bool__, d__law_power, d__law_sets, d_is_row, d_Bears___init__, d_is_name, d_check_passed, d_asked_back, d_Paid___init__, d_holder_of, d_judge_draft, d_losses, d_fewest_failing, d_is_integer, d_is_number, d_check_number, d_check_name, d_Draft___init__, d__law_number, d__law_take, d_law]
theorem csok : cs.all (clsT fa) = true := by decide +kernel
theorem join {K : PySem.W.Frag} (c : SaysX fa fn K) (W : Wd) (eK : W.K = K) (L : Low fa cs W) : ∃ fd, FunD W.K "law" "law" (defArgs (top 28)) (defBody (top 28)) (defScope (top 28)) [] [] (He.fAd W.K ("law", none)) fd ∧ FnOk W.P W.w W.K W.mg W.base CX0 43 (He.fAd W.K ("law", none)) fd ["script"] (spG W F_law) := by
  subst eK
  obtain ⟨fd0, D0⟩ := c.def_ 0 (d := d_Paid___bool__) rfl
  have qm_Paid___bool__ : MethHas (W.at 1) "Paid" "__bool__" F_Paid___bool__ := methHas_of (k := 0) (fun C hC => by obtain ⟨_, rfl⟩ := L.cls_ hC; exact ⟨_, fd0, D0, L.meth mf17, (D0.bindsN fun _ _ _ _ _ _ us hl => match us, hl with | [_], _ => rfl)⟩) fs_Paid___bool__ (P_Paid___bool__.2 (W.at 0) (L.at 0) )
  obtain ⟨fd1, D1⟩ := c.def_ 1 (d := d_Bears___bool__) rfl
  have qm_Bears___bool__ : MethHas (W.at 3) "Bears" "__bool__" F_Bears___bool__ := methHas_of (k := 2) (fun C hC => by obtain ⟨_, rfl⟩ := L.cls_ hC; exact ⟨_, fd1, D1, L.meth mf22, (D1.bindsN fun _ _ _ _ _ _ us hl => match us, hl with | [_], _ => rfl)⟩) fs_Bears___bool__ (P_Bears___bool__.2 (W.at 2) (L.at 2) )
  obtain ⟨fd2, D2⟩ := c.def_ 2 (d := d__law_power) rfl
  have qh__law_power : FnHas (W.at 5) "_law_power" F__law_power := fnHas_of (k := 4) D2 fs__law_power (L.glo mf93) (D2.bindsN fun _ _ _ _ _ _ us hl => match us, hl with | [_], _ => rfl) (P__law_power.2 (W.at 4) (L.at 4) )
  obtain ⟨fd3, D3⟩ := c.def_ 3 (d := d__law_sets) rfl
  have qh__law_sets : FnHas (W.at 7) "_law_sets" F__law_sets := fnHas_of (k := 6) D3 fs__law_sets (L.glo mf94) (D3.bindsN fun _ _ _ _ _ _ us hl => match us, hl with | [_], _ => rfl) (P__law_sets.2 (W.at 6) (L.at 6) )
  obtain ⟨fd4, D4⟩ := c.def_ 4 (d := d_is_row) rfl
  have qh_is_row : FnHas (W.at 9) "is_row" F_is_row := fnHas_of (k := 8) D4 fs_is_row (L.glo mf95) (D4.bindsN fun _ _ _ _ _ _ us hl => match us, hl with | [_], _ => rfl) (P_is_row.2 (W.at 8) (L.at 8) )
  obtain ⟨fd5, D5⟩ := c.def_ 5 (d := d_Bears___init__) rfl
  have qk_Bears : MkHas (W.at 12) "Bears" F_Bears___init__ := mkHas_of (k := 10) (L.is_ (c := "Bears") (by decide +kernel)) (L.cls mf18).2 (L.mkr mf21) D5 (D5.bindsN fun _ _ _ _ _ _ us hl => match us, hl with | [_, _, _], _ => rfl) fs_Bears___init__ (P_Bears___init__.2 (W.at 10) (L.at 10) (fun c f h => by unfold mtB at h; split at h; (rename_i e; subst e; cases h; exact qm_Paid___bool__.lift (by decide)); split at h; (rename_i e; subst e; cases h; exact qm_Bears___bool__.lift (by decide)); cases h) (qh_is_row.lift (by decide)))
  obtain ⟨fd6, D6⟩ := c.def_ 6 (d := d_is_name) rfl
  have qh_is_name : FnHas (W.at 13) "is_name" F_is_name := fnHas_of (k := 12) D6 fs_is_name (L.glo mf96) (D6.bindsN fun _ _ _ _ _ _ us hl => match us, hl with | [_], _ => rfl) (P_is_name.2 (W.at 12) (L.at 12) (fun c f h => by unfold mtB at h; split at h; (rename_i e; subst e; cases h; exact qm_Paid___bool__.lift (by decide)); split at h; (rename_i e; subst e; cases h; exact qm_Bears___bool__.lift (by decide)); cases h))
  obtain ⟨fd7, D7⟩ := c.def_ 7 (d := d_check_passed) rfl
  have qh_check_passed : FnHas (W.at 15) "check_passed" F_check_passed := fnHas_of (k := 14) D7 fs_check_passed (L.glo mf97) (D7.bindsN fun _ _ _ _ _ _ us hl => match us, hl with | [_, _, _], _ => rfl) (P_check_passed.2 (W.at 14) (L.at 14) (fun c f h => by unfold mtB at h; split at h; (rename_i e; subst e; cases h; exact qm_Paid___bool__.lift (by decide)); split at h; (rename_i e; subst e; cases h; exact qm_Bears___bool__.lift (by decide)); cases h) (qh_is_name.lift (by decide)) (qh_is_row.lift (by decide)))
  obtain ⟨fd8, D8⟩ := c.def_ 8 (d := d_asked_back) rfl
  have qh_asked_back : FnHas (W.at 17) "asked_back" F_asked_back := fnHas_of (k := 16) D8 fs_asked_back (L.glo mf98) (D8.bindsN fun _ _ _ _ _ _ us hl => match us, hl with | [_, _, _], _ => rfl) (P_asked_back.2 (W.at 16) (L.at 16) (qh_check_passed.lift (by decide)))
  obtain ⟨fd9, D9⟩ := c.def_ 9 (d := d_Paid___init__) rfl
  have qk_Paid : MkHas (W.at 20) "Paid" F_Paid___init__ := mkHas_of (k := 18) (L.is_ (c := "Paid") (by decide +kernel)) (L.cls mf14).2 (L.mkr mf16) D9 (D9.bindsN fun _ _ _ _ _ _ us hl => match us, hl with | [_, _], _ => rfl) fs_Paid___init__ (P_Paid___init__.2 (W.at 18) (L.at 18) )
  obtain ⟨fd10, D10⟩ := c.def_ 10 (d := d_holder_of) rfl
  have qh_holder_of : FnHas (W.at 21) "holder_of" F_holder_of := fnHas_of (k := 20) D10 fs_holder_of (L.glo mf99) (D10.bindsN fun _ _ _ _ _ _ us hl => match us, hl with | [_, _], _ => rfl) (P_holder_of.2 (W.at 20) (L.at 20) (qh_check_passed.lift (by decide)))
  obtain ⟨fd11, D11⟩ := c.def_ 11 (d := d_judge_draft) rfl
  have qh_judge_draft : FnHas (W.at 23) "judge_draft" F_judge_draft := fnHas_of (k := 22) D11 fs_judge_draft (L.glo mf100) (D11.bindsN fun _ _ _ _ _ _ us hl => match us, hl with | [_, _, _], _ => rfl) (P_judge_draft.2 (W.at 22) (L.at 22) (qk_Bears.lift (by decide)) (qh_asked_back.lift (by decide)) (fun c f h => by unfold mtB at h; split at h; (rename_i e; subst e; cases h; exact qm_Paid___bool__.lift (by decide)); split at h; (rename_i e; subst e; cases h; exact qm_Bears___bool__.lift (by decide)); cases h) (qk_Paid.lift (by decide)) (qh_holder_of.lift (by decide)) (qh_check_passed.lift (by decide)))
  obtain ⟨fd12, D12⟩ := c.def_ 12 (d := d_losses) rfl
  have qh_losses : FnHas (W.at 25) "losses" F_losses := fnHas_of (k := 24) D12 fs_losses (L.glo mf101) (D12.bindsN fun _ _ _ _ _ _ us hl => match us, hl with | [_, _, _], _ => rfl) (P_losses.2 (W.at 24) (L.at 24) (fun c f h => by unfold mtB at h; split at h; (rename_i e; subst e; cases h; exact qm_Paid___bool__.lift (by decide)); split at h; (rename_i e; subst e; cases h; exact qm_Bears___bool__.lift (by decide)); cases h) (qh_judge_draft.lift (by decide)))
  obtain ⟨fd13, D13⟩ := c.def_ 13 (d := d_fewest_failing) rfl
  have qh_fewest_failing : FnHas (W.at 27) "fewest_failing" F_fewest_failing := fnHas_of (k := 26) D13 fs_fewest_failing (L.glo mf102) (D13.bindsN fun _ _ _ _ _ _ us hl => match us, hl with | [_, _, _], _ => rfl) (P_fewest_failing.2 (W.at 26) (L.at 26) (fun c f h => by unfold mtB at h; split at h; (rename_i e; subst e; cases h; exact qm_Paid___bool__.lift (by decide)); split at h; (rename_i e; subst e; cases h; exact qm_Bears___bool__.lift (by decide)); cases h) (qh_asked_back.lift (by decide)) (qh_check_passed.lift (by decide)))
  obtain ⟨fd14, D14⟩ := c.def_ 14 (d := d_is_integer) rfl
  have qh_is_integer : FnHas (W.at 29) "is_integer" F_is_integer := fnHas_of (k := 28) D14 fs_is_integer (L.glo mf103) (D14.bindsN fun _ _ _ _ _ _ us hl => match us, hl with | [_], _ => rfl) (P_is_integer.2 (W.at 28) (L.at 28) (fun c f h => by unfold mtB at h; split at h; (rename_i e; subst e; cases h; exact qm_Paid___bool__.lift (by decide)); split at h; (rename_i e; subst e; cases h; exact qm_Bears___bool__.lift (by decide)); cases h))
  obtain ⟨fd15, D15⟩ := c.def_ 15 (d := d_is_number) rfl
  have qh_is_number : FnHas (W.at 31) "is_number" F_is_number := fnHas_of (k := 30) D15 fs_is_number (L.glo mf104) (D15.bindsN fun _ _ _ _ _ _ us hl => match us, hl with | [_, _, _], _ => rfl) (P_is_number.2 (W.at 30) (L.at 30) (qh_is_integer.lift (by decide)))
  obtain ⟨fd16, D16⟩ := c.def_ 16 (d := d_check_number) rfl
  have qh_check_number : FnHas (W.at 33) "check_number" F_check_number := fnHas_of (k := 32) D16 fs_check_number (L.glo mf105) (D16.bindsN fun _ _ _ _ _ _ us hl => match us, hl with | [_, _, _, _], _ => rfl) (P_check_number.2 (W.at 32) (L.at 32) (fun c f h => by unfold mtB at h; split at h; (rename_i e; subst e; cases h; exact qm_Paid___bool__.lift (by decide)); split at h; (rename_i e; subst e; cases h; exact qm_Bears___bool__.lift (by decide)); cases h) (qh_is_number.lift (by decide)))
  obtain ⟨fd17, D17⟩ := c.def_ 17 (d := d_check_name) rfl
  have qh_check_name : FnHas (W.at 35) "check_name" F_check_name := fnHas_of (k := 34) D17 fs_check_name (L.glo mf106) (D17.bindsN fun _ _ _ _ _ _ us hl => match us, hl with | [_, _], _ => rfl) (P_check_name.2 (W.at 34) (L.at 34) (fun c f h => by unfold mtB at h; split at h; (rename_i e; subst e; cases h; exact qm_Paid___bool__.lift (by decide)); split at h; (rename_i e; subst e; cases h; exact qm_Bears___bool__.lift (by decide)); cases h) (qh_is_name.lift (by decide)))
  obtain ⟨fd18, D18⟩ := c.def_ 18 (d := d_Draft___init__) rfl
  have qk_Draft : MkHas (W.at 38) "Draft" F_Draft___init__ := mkHas_of (k := 36) (L.is_ (c := "Draft") (by decide +kernel)) (L.cls mf10).2 (L.mkr mf28) D18 (D18.bindsN fun _ _ _ _ _ _ us hl => match us, hl with | [_, _, _, _, _, _], _ => rfl) fs_Draft___init__ (P_Draft___init__.2 (W.at 36) (L.at 36) (fun c f h => by unfold mtB at h; split at h; (rename_i e; subst e; cases h; exact qm_Paid___bool__.lift (by decide)); split at h; (rename_i e; subst e; cases h; exact qm_Bears___bool__.lift (by decide)); cases h) (qh_check_number.lift (by decide)) (qh_check_name.lift (by decide)))
  obtain ⟨fd19, D19⟩ := c.def_ 19 (d := d__law_number) rfl
  have qh__law_number : FnHas (W.at 39) "_law_number" F__law_number := fnHas_of (k := 38) D19 fs__law_number (L.glo mf107) (D19.bindsN fun _ _ _ _ _ _ us hl => match us, hl with | [_, _], _ => rfl) (P__law_number.2 (W.at 38) (L.at 38) )
  obtain ⟨fd20, D20⟩ := c.def_ 20 (d := d__law_take) rfl
  have qh__law_take : FnHas (W.at 41) "_law_take" F__law_take := fnHas_of (k := 40) D20 fs__law_take (L.glo mf108) (D20.bindsN fun _ _ _ _ _ _ us hl => match us, hl with | [_, _], _ => rfl) (P__law_take.2 (W.at 40) (L.at 40) (qh__law_number.lift (by decide)))
  obtain ⟨fd21, D21⟩ := c.def_ 21 (d := d_law) rfl
  exact ⟨fd21, D21, fnok_of (W := W) (k := 42) D21 fs_law (P_law.2 (W.at 42) (L.at 42) (qh__law_power.lift (by decide)) (fun c f h => by unfold mtB at h; split at h; (rename_i e; subst e; cases h; exact qm_Paid___bool__.lift (by decide)); split at h; (rename_i e; subst e; cases h; exact qm_Bears___bool__.lift (by decide)); cases h) (qh__law_sets.lift (by decide)) (qh_losses.lift (by decide)) (qh_fewest_failing.lift (by decide)) (qh_judge_draft.lift (by decide)) (qk_Draft.lift (by decide)) (qh__law_take.lift (by decide)))⟩
end K66
namespace K66
open PySem L2 G
theorem s_is_integer (i : Int) (M : Ms) : F_is_integer [.d (.int i)] M = some (.d (.bl true), M) := by
  simp [F_is_integer, B_is_integer, P_is_integer, icD, tyD]
theorem s_is_number (i lo hi : Int) (M : Ms) : F_is_number [.d (.int i), .d (.int lo), .d (.int hi)] M = some (.d (.bl (decide (lo ≤ i) && decide (i ≤ hi))), M) := by
  simp only [F_is_number, r_fnD, B_is_number, P_is_number]
  simp [s_is_integer, r_chainI (a := lo) (b := i) (c := hi)]
theorem s_check_number (p : Str) (i lo hi : Int) (M : Ms) (h1 : lo ≤ i) (h2 : i ≤ hi) : F_check_number [.d (.str p), .d (.int i), .d (.int lo), .d (.int hi)] M = some (.d .non, M) := by
  simp [F_check_number, B_check_number, P_check_number, s_is_number, h1, h2]
end K66
namespace K66
open PySem L2 G
theorem s_is_name (x : Str) (M : Ms) (hl : x.length ≤ sizeLine) : F_is_name [.d (.str x)] M = some (.d (.bl (nameOk x)), M) := by
  have hz := two_line
  have hz36 : 36 ≤ sizeLine := by rw [sizeLine_eq]; omega
  simp only [F_is_name, r_fnD, B_is_name, P_is_name]
  obtain ⟨l, hx⟩ : ∃ l, x.cps.toList = l := ⟨_, rfl⟩
  have hlen : x.length = l.length := by rw [str_len, hx]
  cases l with
  | nil =>
    simp at hlen
    simp [hl, hlen, icD, tyD, nameOk, hx, -r_eBin, r_chainI (a := 1) (b := 0) (c := 8)]
  | cons c r =>
    have hn : nameOk x = (decide (r.length ≤ 7) && smallC c && (c :: r).all signC) := by unfold nameOk; rw [hx]
    simp only [List.length_cons] at hlen
    have c1 : ∀ (e : Ev) (M : Ms), e[0]? = some (some (.d (.str x))) → eChain (gI fun i j => D.bl (decide (i ≤ j))) (gI fun i j => D.bl (decide (i ≤ j))) (eCst (D.int 1)) (eCall gLen (aCons (eVar 0) aNil)) (eCst (D.int 8)) e M = some (.d (.bl (decide (r.length ≤ 7))), M) := fun e M he => by
      rw [r_chainI (g := fun i j => decide (i ≤ j)) (g' := fun i j => decide (i ≤ j)) (a := 1) (b := (r.length : Int) + 1) (c := 8) (by simp) (by simp [he, hlen, hlen ▸ hl]) (by simp)]
      congr 5
      rw [← Bool.decide_and, decide_eq_decide]
      omega
    by_cases h7 : r.length ≤ 7
    · by_cases h8 : smallC c = true
      · have hlc : ∀ (e : Ev) (M : Ms), e[0]? = some (some (.d (.str x))) → e.length = 2 → cLc (iSeq (eVar 0)) (gVar 1) tTrue (eBin gIn (eVar 1) (eBin gAdd (eCst (D.str (PySem.Str.ofString "abcdefghijklmnopqrstuvwxyz"))) (eCst (D.str (PySem.Str.ofString "0123456789"))))) [1] e M = some (.lst (((c :: r).map signC).map D.bl), M) := fun e M he hle => by
          have h0 : 0 < e.length := by omega
          rw [List.map_map]
          refine cLc_map (M1 := M) (c :: r) (fun c => .str ⟨#[c]⟩) _ (by simp [he, hx]) (fun y hy acc => ?_) (by simp; omega)
          refine ⟨(wipeE e [1]).set 1 (some (.d (.str ⟨#[y]⟩))), by simp [wipeE, hle], ?_⟩
          have l1 : (Str.ofString "abcdefghijklmnopqrstuvwxyz").length = 26 := by decide +kernel
          have l2 : (Str.ofString "0123456789").length = 10 := by decide +kernel
          simp [wipeE, hle, l1, l2, hz36, -r_gIn1]
          rw [r_gIn1, sign_mem]
        have hall := gAll_bls ((c :: r).map signC)
        generalize hR : (((c :: r).map signC).map D.bl) = R at hlc hall
        have hv : ((c :: r).map signC).all id = (c :: r).all signC := by rw [List.all_map]; rfl
        rw [hv] at hall
        have h8' : decide (c ∈ (Str.ofString "abcdefghijklmnopqrstuvwxyz").cps.toList) = true := by rw [small_mem]; exact h8
        simp only [decide_eq_true_eq] at h8'
        simp [hl, hx, icD, tyD, c1, h7, h8', hlc, Cell.toD, hall, hn, h8, -List.all_cons]
      · have h8' : decide (c ∈ (Str.ofString "abcdefghijklmnopqrstuvwxyz").cps.toList) = false := by rw [small_mem]; simpa using h8
        simp only [decide_eq_false_iff_not] at h8'
        simp [hl, hx, icD, tyD, c1, h7, h8', hn, h8]
    · simp [hl, hx, icD, tyD, c1, h7, hn]
theorem s_nm {x : Str} (h : nameOk x = true) (M : Ms) : F_is_name [.d (.str x)] M = some (.d (.bl true), M) := by
  rw [s_is_name x M, h]
  have : x.length ≤ 8 := by
    unfold nameOk at h
    rw [str_len]
    split at h
    · cases h
    · rename_i c r e
      rw [e]
      simp only [Bool.and_eq_true, decide_eq_true_eq] at h
      simp; omega
  rw [sizeLine_eq]; omega
end K66
namespace K66
open PySem L2 G
def dr (t : Bool) : D := .obj "Draft" [("money", .int 7), ("drawer", .str "dora"), ("payer", .str "paul"), ("due", .int 1), ("is_taken", .bl t)]
theorem s_is_row (ds : List D) (M : Ms) : F_is_row [.d (.lst ds)] M = some (.d (.bl true), M) := by
  simp [F_is_row, B_is_row, P_is_row, icD, tyD]
/-- hands a draft may go through -/
def handsOk (hands : List Str) : Bool := hands.all nameOk && decide hands.Nodup && decide (("dora" : Str) ∉ hands) && decide (("paul" : Str) ∉ hands) && decide (hands.length ≤ 1000)
theorem handsOk_ok {hands : List Str} (h : handsOk hands = true) : (∀ x ∈ hands, nameOk x = true) ∧ hands.Nodup ∧ ("dora" : Str) ∉ hands ∧ ("paul" : Str) ∉ hands ∧ hands.length ≤ 1000 := by
  unfold handsOk at h
  simp only [Bool.and_eq_true, decide_eq_true_eq, List.all_eq_true] at h
  exact ⟨h.1.1.1.1, h.1.1.1.2, h.1.1.2, h.1.2, h.2⟩
theorem all_ok {hs : List Str} (h : ∀ x ∈ hs, nameOk x = true) : hs.all PyData.strOk = true := List.all_eq_true.mpr fun x hx => nameOk_ok (h x hx)
theorem s_check_passed (t : Bool) (hands fs : List Str) (M : Ms) (ho : handsOk hands = true) (hf : fs.all nameOk = true) (hfl : fs.length ≤ 1000) : F_check_passed [.d (dr t), .d (.lst (hands.map .str)), .d (.lst (fs.map .str))] M = some (.d .non, M) := by
  obtain ⟨h1, h2, h3, h4, h5⟩ := handsOk_ok ho
  have hf' := List.all_eq_true.mp hf
  refine fn_nx rfl rfl ?_
  simp only [B_check_passed, P_check_passed, r_env0]
  refine seq_nx (by simp [dr, icD, tyD]; exact ⟨rfl, rfl⟩) ?_
  refine seq_nx (by simp [s_is_row]; exact ⟨rfl, rfl⟩) ?_
  refine seq_for2 ((List.range hands.length).zip hands) (fun p => .tup [.int ((p.1 : Nat) : Int), .str p.2]) (fun _ z w => [some (.d (dr t)), some (.d (.lst (hands.map .str))), some (.d (.lst (fs.map .str))), z, w]) (fun _ => M) none none (by simp [enum_map]) rfl rfl ?_ ?_
  · rintro i ⟨j, y⟩ z w hx
    obtain ⟨rfl, hx⟩ := zip_get hx
    simp only at hx ⊢
    obtain ⟨hi, ei⟩ := List.getElem?_eq_some_iff.mp hx
    have hy : y ∈ hands := by rw [← ei]; exact List.getElem_mem hi
    have n3 : ¬ ("dora" : Str) = y := fun h => h3 (h ▸ hy)
    have n4 : ¬ ("paul" : Str) = y := fun h => h4 (h ▸ hy)
    have hz := two_line
    have hin : gIn (.str y) (.lst ((hands.map D.str).take j)) = some (.bl false) := by
      rw [← List.map_take, r_gInL, in_strs (nameOk_ok (h1 y hy)) (all_ok fun x hx => h1 x (List.mem_of_mem_take hx))]
      have : y ∉ hands.take j := fun hm => by
        obtain ⟨k, hj, ej⟩ := List.mem_iff_getElem.mp hm
        rw [List.length_take] at hj
        rw [List.getElem_take] at ej
        have := (List.getElem_inj (h₀ := by omega) (h₁ := hi) h2).mp (ej.trans ei.symm)
        omega
      simp [this]
    have hok := nameOk_ok (h1 y hy)
    refine ⟨some (.d (.int (j : Nat))), some (.d (.str y)), ?_⟩
    simp [s_nm (h1 y hy), dr, hz, n3, n4, hok, cList, itemsOf, dSlice, cut_take, hin, -r_gInL]
  · intro z w
    have hall := gAll_bls (fs.map fun _ => true)
    have hv : ((fs.map fun _ => true) : List Bool).all id = true := by simp
    rw [hv, List.map_map] at hall
    refine if_f ?_ (isE_of rfl)
    simp [s_is_row]
    rw [cLc_map (M1 := M) fs D.str (D.bl ∘ fun _ => true) (by simp) (fun y hy acc => ⟨[some (.d (dr t)), some (.d (.lst (hands.map .str))), some (.d (.lst (fs.map .str))), z, some (.d (.str y))], by simp [wipeE], by simp [s_nm (hf' y hy)]⟩) (by rw [sizeLine_eq]; omega)]
    simp [hall, -List.map_const_fun]
end K66
namespace K66
open PySem L2 G
def rows (hands : List Str) : List Str := "dora" :: hands
def lastH (hands : List Str) : Str := (rows hands).getLastD "dora"
theorem last_mem (hands : List Str) : lastH hands ∈ rows hands := by
  unfold lastH rows
  rw [List.getLastD_cons]
  exact List.getLastD_mem_cons
theorem rows_ok {hands : List Str} (h : handsOk hands = true) : (∀ x ∈ rows hands, nameOk x = true) ∧ (rows hands).Nodup := by
  obtain ⟨h1, h2, h3, h4, h5⟩ := handsOk_ok h
  refine ⟨fun x hx => ?_, List.nodup_cons.mpr ⟨h3, h2⟩⟩
  rcases List.mem_cons.mp hx with rfl | hx
  · decide +kernel
  · exact h1 x hx
theorem cp0 (t : Bool) (hands : List Str) (M : Ms) (ho : handsOk hands = true) : F_check_passed [.d (dr t), .d (.lst (hands.map .str)), .d (.lst [])] M = some (.d .non, M) := s_check_passed t hands [] M ho rfl (by decide)
theorem s_holder (t : Bool) (hands : List Str) (M : Ms) (ho : handsOk hands = true) : F_holder_of [.d (dr t), .d (.lst (hands.map .str))] M = some (.d (.str (lastH hands)), M) := by
  refine fn_rt rfl ?_
  simp only [B_holder_of, P_holder_of, r_env0]
  refine seq_nx (by simp [cp0 t hands M ho]; exact ⟨rfl, rfl⟩) ?_
  rcases List.eq_nil_or_concat hands with rfl | ⟨L, b, rfl⟩
  · simp [isR, dr, rows, lastH]
  · have h0 : (0 : Int) < (L.length : Int) + 1 := by omega
    have hg : (Str.ofString "dora" :: (L ++ [b])).getLast? = some b := by rw [← List.cons_append, List.getLast?_concat]
    simp [isR, h0, cList, itemsOf, gAtI_last, lastH, rows, List.getLastD_eq_getLast?, hg]
/-- who can be asked -/
def back (hands : List Str) (hand : Str) : List Str := ((rows hands).take ((rows hands).idxOf hand)).reverse
theorem s_asked (t : Bool) (hands : List Str) (hand : Str) (M : Ms) (ho : handsOk hands = true) (hh : hand ∈ rows hands) : F_asked_back [.d (dr t), .d (.lst (hands.map .str)), .d (.str hand)] M = some (.d (.lst ((back hands hand).map .str)), M) := by
  obtain ⟨k1, k2⟩ := rows_ok ho
  have hl : hands.length ≤ 1000 := (handsOk_ok ho).2.2.2.2
  have hz : hands.length + 1 ≤ sizeLine := by rw [sizeLine_eq]; omega
  refine fn_rt rfl ?_
  simp only [B_asked_back, P_asked_back, r_env0]
  refine seq_nx (by simp [cp0 t hands M ho]; exact ⟨rfl, rfl⟩) ?_
  have e1 : D.lst (D.str "dora" :: hands.map .str) = .lst ((rows hands).map .str) := rfl
  have e2 : frzL ((hands.map D.str).map S.d) M = some (hands.map D.str, M) := r_frzL_map _
  rw [List.map_map] at e2
  refine seq_nx (by simp [dr, itemsOf, e2, hz]; rw [e1]; exact ⟨rfl, rfl⟩) ?_
  have hin := in_strs (nameOk_ok (k1 hand hh)) (all_ok k1)
  refine seq_nx (by simp [dr, -r_gNotInL]; rw [r_gNotInL, hin]; simp [hh]; exact ⟨rfl, rfl⟩) ?_
  have hix := gIndex_strs hh (nameOk_ok (k1 hand hh)) (all_ok k1)
  simp [isR, eIndex, hix, dSlice, cut_take, dRev, back]
end K66
namespace K66
open PySem L2 G
def ask (hands fs : List Str) (hand : Str) : List Str := (back hands hand).filter fun x => !decide (x ∈ fs)
abbrev cAsk : CF := cLc (iSeq (eFn F_asked_back (aCons (eVar 0) (aCons (eVar 1) (aCons (eVar 3) aNil))))) (gVar 6) (eTest (eBin gNotIn (eVar 6) (eVar 2))) (eVar 6) [6]
abbrev wCond : TF := eTest (eBin gNe (eTree cAsk) (eLst aNil))
abbrev wBody : SF := sSeq (sAsg (eBin dIdx (eTree cAsk) (eCst (D.int 0))) (gVar 5)) (sSeq (sExpr (eAppend (eVar 4) (eTup (aCons (eVar 5) (aCons (eVar 3) aNil))))) (sAsg (eVar 5) (gVar 3)))
abbrev jE (t : Bool) (hands fs : List Str) (hand : Str) (k : Nat) (z w : Option S) : Ev := [some (.d (dr t)), some (.d (.lst (hands.map .str))), some (.d (.lst (fs.map .str))), some (.d (.str hand)), some (.hd k), z, w]
theorem back_len (hands : List Str) (hand : Str) : (back hands hand).length ≤ hands.length + 1 := by
  unfold back rows
  rw [List.length_reverse]
  exact Nat.le_trans (List.length_take_le' ..) (by simp)
theorem s_ask (t : Bool) (hands fs : List Str) (hand : Str) (k : Nat) (z w : Option S) (M : Ms) (ho : handsOk hands = true) (hh : hand ∈ rows hands) (hf : fs.all nameOk = true) : cAsk (jE t hands fs hand k z w) M = some (.lst ((ask hands fs hand).map .str), M) := by
  have hl : hands.length ≤ 1000 := (handsOk_ok ho).2.2.2.2
  have hf' := List.all_eq_true.mp hf
  refine cLc_filter (M1 := M) (back hands hand) D.str D.str _ (by simp [s_asked t hands hand M ho hh]) (fun y hy acc => ⟨jE t hands fs hand k z (some (.d (.str y))), by simp [wipeE], ?_, fun _ => by simp⟩) (by have := back_len hands hand; rw [sizeLine_eq]; omega)
  have hy' : y ∈ rows hands := by
    unfold back at hy
    exact List.mem_of_mem_take (List.mem_reverse.mp hy)
  have hin := in_strs (nameOk_ok ((rows_ok ho).1 y hy')) (all_ok hf')
  simp [-r_gNotInL]
  rw [r_gNotInL, hin]
  simp
def walk (hands fs : List Str) : Nat → Str → List (Str × Str) → Option (Str × List (Str × Str))
  | 0, _, _ => none
  | n + 1, hand, way => match ask hands fs hand with
    | [] => some (hand, way)
    | l :: _ => walk hands fs n l (way ++ [(l, hand)])
def prD (p : Str × Str) : D := .tup [.str p.1, .str p.2]
theorem ask_mem {hands fs : List Str} {hand l : Str} {r : List Str} (h : ask hands fs hand = l :: r) : l ∈ rows hands := by
  have : l ∈ ask hands fs hand := by rw [h]; simp
  unfold ask back at this
  exact List.mem_of_mem_take (List.mem_reverse.mp (List.mem_filter.mp this).1)
theorem ask_ok {hands fs : List Str} {hand : Str} (ho : handsOk hands = true) : (ask hands fs hand).all PyData.strOk = true := all_ok fun x hx => by
  unfold ask back at hx
  exact (rows_ok ho).1 x (List.mem_of_mem_take (List.mem_reverse.mp (List.mem_filter.mp hx).1))
theorem s_walk (t : Bool) (hands fs : List Str) (M0 : Ms) (ho : handsOk hands = true) (hf : fs.all nameOk = true) : ∀ (n : Nat) (hand : Str) (way : List (Str × Str)) (z w : Option S) (h' : Str) (w' : List (Str × Str)), hand ∈ rows hands → way.length + n ≤ 1000 → walk hands fs n hand way = some (h', w') →
    ∃ z' w2, whileD wCond wBody n (jE t hands fs hand M0.length z w) (M0 ++ [.lst (way.map prD)]) = some (.nx (jE t hands fs h' M0.length z' w2) (M0 ++ [.lst (w'.map prD)]))
  | 0, _, _, _, _, _, _, _, _, h => by cases h
  | n + 1, hand, way, z, w, h', w', hh, hl, h => by
    have ha := s_ask t hands fs hand M0.length z w (M0 ++ [.lst (way.map prD)]) ho hh hf
    have hz := two_line
    have hok := ask_ok (fs := fs) (hand := hand) ho
    unfold walk at h
    cases e : ask hands fs hand with
    | nil =>
      rw [e] at h ha
      obtain ⟨rfl, rfl⟩ : hand = h' ∧ way = w' := by simpa using h
      refine ⟨z, w, ?_⟩
      have hc : wCond (jE t hands fs hand M0.length z w) (M0 ++ [.lst (way.map prD)]) = some (false, M0 ++ [.lst (way.map prD)]) := by
        show eTest (eBin gNe (eTree cAsk) (eLst aNil)) _ _ = _
        rw [r_eTest, r_eBin, r_eTree, ha]
        simp
      unfold whileD
      rw [hc]
    | cons l r =>
      rw [e] at h ha hok
      have hc : wCond (jE t hands fs hand M0.length z w) (M0 ++ [.lst (way.map prD)]) = some (true, M0 ++ [.lst (way.map prD)]) := by
        rw [List.all_cons] at hok
        have ho1 := (Bool.and_eq_true_iff.mp hok).1
        have ho2 := (Bool.and_eq_true_iff.mp hok).2
        show eTest (eBin gNe (eTree cAsk) (eLst aNil)) _ _ = _
        rw [r_eTest, r_eBin, r_eTree, ha]
        simp [ho1, ho2]
      have hb : wBody (jE t hands fs hand M0.length z w) (M0 ++ [.lst (way.map prD)]) = some (.nx (jE t hands fs l M0.length (some (.d (.str l))) w) (M0 ++ [.lst ((way ++ [(l, hand)]).map prD)])) := by
        have h1 : way.length < sizeLine := by rw [sizeLine_eq]; omega
        show sSeq (sAsg (eBin dIdx (eTree cAsk) (eCst (D.int 0))) (gVar 5)) _ _ _ = _
        rw [r_sSeq, r_sAsg, r_eBin, r_eTree, ha]
        simp [hz, h1, prD]
      obtain ⟨z', w2, ih⟩ := s_walk t hands fs M0 ho hf n l (way ++ [(l, hand)]) (some (.d (.str l))) w h' w' (ask_mem e) (by simp; omega) h
      refine ⟨z', w2, ?_⟩
      unfold whileD
      rw [hc]
      simp only
      rw [hb]
      exact ih
/-- what is judged -/
def jd (t : Bool) (hands fs : List Str) (h' : Str) (w' : List (Str × Str)) : D := if t && !decide (("paul" : Str) ∈ fs) then .obj "Paid" [("hand", .str (lastH hands))] else .obj "Bears" [("hand", .str h'), ("way", .tup (w'.map prD))]
theorem paid_init (x : D) (M : Ms) : F_Paid___init__ [.hd M.length, .d x] (M ++ [.obj "Paid" []]) = some (.d .non, M ++ [.obj "Paid" [("hand", x)]]) := by
  refine fn_nx rfl (by simp) ?_
  simp only [B_Paid___init__, P_Paid___init__, r_env0]
  exact isE_of (by simp [setFld, setFld.putFD]; rfl)
theorem s_is_rowS (s : S) (ds : List D) (M : Ms) (h : view M s = some (.lst ds)) : F_is_row [s] M = some (.d (.bl true), M) := by
  refine fn_rt rfl ?_
  simp [isR, B_is_row, P_is_row, h, icD, tyD, -r_view_h]
theorem bears_init (x : D) (ds : List D) (M : Ms) : F_Bears___init__ [.hd (M.length + 1), .d x, .hd M.length] (M ++ [.lst ds, .obj "Bears" []]) = some (.d .non, M ++ [.lst ds, .obj "Bears" [("hand", x), ("way", .tup ds)]]) := by
  refine fn_nx rfl (by simp) ?_
  simp only [B_Bears___init__, P_Bears___init__, r_env0]
  have g0 : (M ++ [Cell.lst ds, Cell.obj "Bears" []])[M.length + 1]? = some (.obj "Bears" []) := by simp
  have h1 : setFld (naT fa) (M ++ [.lst ds, .obj "Bears" []]) (.hd (M.length + 1)) "hand" x = some (M ++ [.lst ds, .obj "Bears" [("hand", x)]]) := by
    simp [setFld, setFld.putFD]
  have h2 : setFld (naT fa) (M ++ [.lst ds, .obj "Bears" [("hand", x)]]) (.hd (M.length + 1)) "way" (.tup ds) = some (M ++ [.lst ds, .obj "Bears" [("hand", x), ("way", .tup ds)]]) := by
    simp [setFld, setFld.putFD]
  have h3 := s_is_rowS (.hd M.length) ds (M ++ [.lst ds, .obj "Bears" [("hand", x)]]) (by simp [Cell.toD])
  exact isE_of (by simp [h1, h2, h3, Cell.toD]; rfl)
theorem s_judge (t : Bool) (hands fs : List Str) (M : Ms) (n : Nat) (h' : Str) (w' : List (Str × Str)) (ho : handsOk hands = true) (hf : fs.all nameOk = true) (hfl : fs.length ≤ 1000) (hn : n ≤ 1000) (hw : walk hands fs n (lastH hands) [] = some (h', w')) :
    F_judge_draft [.d (dr t), .d (.lst (hands.map .str)), .d (.lst (fs.map .str))] M = some (.d (jd t hands fs h' w'), M) := by
  have hp : PyData.strOk ("paul" : Str) = true := lit_ok _
  have hin := in_strs hp (all_ok (List.all_eq_true.mp hf))
  have hz := two_line
  have hlast := last_mem hands
  by_cases hc : t = true ∧ ("paul" : Str) ∉ fs
  · refine fn_rtA (L := [.lst []]) rfl ?_
    simp only [B_judge_draft, P_judge_draft, r_env0]
    refine seq_nx (by simp [s_check_passed t hands fs M ho hf hfl]; exact ⟨rfl, rfl⟩) ?_
    refine seq_nx (by simp [s_holder t hands M ho]; exact ⟨rfl, rfl⟩) ?_
    have hi := paid_init (.str (lastH hands)) (M ++ [.lst []])
    have e2 : (M ++ [Cell.lst []]) ++ [.obj "Paid" []] = M ++ [.lst [], .obj "Paid" []] := by simp
    have e3 : (M ++ [Cell.lst []]).length = M.length + 1 := by simp
    rw [e2, e3] at hi
    refine seq_rt (if_t (by simp [dr, -r_gNotInL]; rw [r_gNotInL, hin]; simp [hc]; rfl) ?_)
    simp [isR, hi, jd, hc, Cell.toD]
  · refine fn_rtA (L := [.lst (w'.map prD)]) rfl ?_
    simp only [B_judge_draft, P_judge_draft, r_env0]
    refine seq_nx (by simp [s_check_passed t hands fs M ho hf hfl]; exact ⟨rfl, rfl⟩) ?_
    refine seq_nx (by simp [s_holder t hands M ho]; exact ⟨rfl, rfl⟩) ?_
    refine seq_nx (e1 := jE t hands fs (lastH hands) M.length none none) (M1 := M ++ [.lst []]) (by
      cases t with
      | false => simp [dr]
      | true =>
        have : ("paul" : Str) ∈ fs := by simpa using hc
        simp [dr, -r_gNotInL]; rw [r_gNotInL, hin]; simp [this, dr]) ?_
    obtain ⟨z', w2, hwh⟩ := s_walk t hands fs M ho hf n _ [] none none h' w' hlast (by simpa using hn) hw
    refine seq_nx (e1 := jE t hands fs h' M.length z' w2) (M1 := M ++ [Cell.lst (w'.map prD)]) (whileD_mono (n := n) (by omega) hwh) ?_
    have hi := bears_init (.str h') (w'.map prD) M
    have hj : (t && !decide (("paul" : Str) ∈ fs)) = false := by
      cases t <;> simp at hc ⊢
      exact hc
    simp [isR, hi, jd, hj, Cell.toD]
end K66
namespace K66
open PySem L2 G
theorem s_few (t : Bool) (hands : List Str) (hand : Str) (M : Ms) (ho : handsOk hands = true) (hh : hand ∈ rows hands) : F_fewest_failing [.d (dr t), .d (.lst (hands.map .str)), .d (.str hand)] M = some (.d (.int ((back hands hand).length + if t then 1 else 0)), M) := by
  obtain ⟨k1, k2⟩ := rows_ok ho
  have hl : hands.length ≤ 1000 := (handsOk_ok ho).2.2.2.2
  have hz : hands.length + 1 ≤ sizeLine := by rw [sizeLine_eq]; omega
  refine fn_rt rfl ?_
  simp only [B_fewest_failing, P_fewest_failing, r_env0]
  refine seq_nx (by simp [cp0 t hands M ho]; exact ⟨rfl, rfl⟩) ?_
  have e1 : D.lst (D.str "dora" :: hands.map .str) = .lst ((rows hands).map .str) := rfl
  have e2 : frzL ((hands.map D.str).map S.d) M = some (hands.map D.str, M) := r_frzL_map _
  rw [List.map_map] at e2
  have hin := in_strs (nameOk_ok (k1 hand hh)) (all_ok k1)
  refine seq_nx (e1 := [some (.d (dr t)), some (.d (.lst (hands.map .str))), some (.d (.str hand)), none]) (M1 := M) (by simp [dr, itemsOf, e2, hz, -r_gNotInL]; rw [e1, r_gNotInL, hin]; simp [hh]) ?_
  refine seq_nx (by simp [s_asked t hands hand M ho hh]; exact ⟨rfl, rfl⟩) ?_
  cases t <;> simp [isR, dr]
theorem tru_paid (gs : List (Str × D)) (M : Ms) : F_Paid___bool__ [.d (.obj "Paid" gs)] M = some (.d (.bl true), M) := by
  simp [F_Paid___bool__, B_Paid___bool__, P_Paid___bool__]
theorem tru_bears (gs : List (Str × D)) (M : Ms) : F_Bears___bool__ [.d (.obj "Bears" gs)] M = some (.d (.bl false), M) := by
  simp [F_Bears___bool__, B_Bears___bool__, P_Bears___bool__]
theorem s_losses (t : Bool) (hands fs : List Str) (M : Ms) (n : Nat) (h' : Str) (w' : List (Str × Str)) (ho : handsOk hands = true) (hf : fs.all nameOk = true) (hfl : fs.length ≤ 1000) (hn : n ≤ 1000) (hw : walk hands fs n (lastH hands) [] = some (h', w')) :
    F_losses [.d (dr t), .d (.lst (hands.map .str)), .d (.lst (fs.map .str))] M = some (.d (.dct (if t && !decide (("paul" : Str) ∈ fs) then [] else [(.inr h', .int 7)])), M) := by
  have hj := s_judge t hands fs M n h' w' ho hf hfl hn hw
  refine fn_rt rfl ?_
  simp only [B_losses, P_losses, r_env0]
  refine seq_nx (by simp [hj]; exact ⟨rfl, rfl⟩) ?_
  unfold jd
  cases hc : (t && !decide (("paul" : Str) ∈ fs)) with
  | true => simp [isR, tru_paid]
  | false => simp [isR, tru_bears, cDisp, dpCons, dpNil, keyD, mergeD, putD, dr]
end K66
namespace K66
open PySem L2 G
def strL : List D → Option (List Str)
  | [] => some []
  | .str x :: r => match strL r with
    | some l => some (x :: l)
    | none => none
  | _ :: _ => none
theorem strL_some : ∀ {ds : List D} {l : List Str}, strL ds = some l → ds = l.map .str
  | [], l, h => by cases h; rfl
  | d :: r, l, h => by
    cases d with
    | str x =>
      unfold strL at h
      split at h
      · rename_i l' e; cases h; rw [strL_some e]; rfl
      · cases h
    | _ => cases h
def isDr : D → Option Bool
  | .obj c [(a, .int 7), (b, .str x), (e, .str y), (f, .int 1), (g, .bl t)] => if c = "Draft" ∧ a = "money" ∧ b = "drawer" ∧ x = "dora" ∧ e = "payer" ∧ y = "paul" ∧ f = "due" ∧ g = "is_taken" then some t else none
  | _ => none
theorem isDr_some {d : D} {t : Bool} (h : isDr d = some t) : d = dr t := by
  unfold isDr at h
  split at h
  · split at h
    · rename_i e
      cases h
      obtain ⟨rfl, rfl, rfl, rfl, rfl, rfl, rfl, rfl⟩ := e
      rfl
    · cases h
  · cases h
def argsJ (d : D) (ds es : List D) : Option (Bool × List Str × List Str × Str × List (Str × Str)) := match isDr d, strL ds, strL es with
  | some t, some hands, some fs => if handsOk hands && fs.all nameOk && decide (fs.length ≤ 1000) then match walk hands fs 20 (lastH hands) [] with
      | some (h, w) => some (t, hands, fs, h, w)
      | none => none
    else none
  | _, _, _ => none
theorem argsJ_some {d : D} {ds es : List D} {t : Bool} {hands fs : List Str} {h' : Str} {w' : List (Str × Str)} (h : argsJ d ds es = some (t, hands, fs, h', w')) : d = dr t ∧ ds = hands.map .str ∧ es = fs.map .str ∧ handsOk hands = true ∧ fs.all nameOk = true ∧ fs.length ≤ 1000 ∧ walk hands fs 20 (lastH hands) [] = some (h', w') := by
  unfold argsJ at h
  split at h
  · rename_i t0 hs0 fs0 e1 e2 e3
    split at h
    · rename_i hc
      split at h
      · rename_i h0 w0 e4
        cases h
        simp only [Bool.and_eq_true, decide_eq_true_eq] at hc
        exact ⟨isDr_some e1, strL_some e2, strL_some e3, hc.1.1, hc.1.2, hc.2, e4⟩
      · cases h
    · cases h
  · cases h
def Q_judge : FSem := fun ss M => match ss with
  | [.d d, .d (.lst ds), .d (.lst es)] => match argsJ d ds es with
    | some (t, hands, fs, h, w) => some (.d (jd t hands fs h w), M)
    | none => F_judge_draft ss M
  | _ => F_judge_draft ss M
theorem Q_judge_eq : F_judge_draft = Q_judge := by
  funext ss M
  unfold Q_judge
  split
  · split
    · rename_i e
      obtain ⟨rfl, rfl, rfl, h1, h2, h3, h4⟩ := argsJ_some e
      exact s_judge _ _ _ M 20 _ _ h1 h2 h3 (by decide) h4
    · rfl
  · rfl
def Q_losses : FSem := fun ss M => match ss with
  | [.d d, .d (.lst ds), .d (.lst es)] => match argsJ d ds es with
    | some (t, hands, fs, h, w) => some (.d (.dct (if t && !decide (("paul" : Str) ∈ fs) then [] else [(.inr h, .int 7)])), M)
    | none => F_losses ss M
  | _ => F_losses ss M
theorem Q_losses_eq : F_losses = Q_losses := by
  funext ss M
  unfold Q_losses
  split
  · split
    · rename_i e
      obtain ⟨rfl, rfl, rfl, h1, h2, h3, h4⟩ := argsJ_some e
      exact s_losses _ _ _ M 20 _ _ h1 h2 h3 (by decide) h4
    · rfl
  · rfl
def Q_few : FSem := fun ss M => match ss with
  | [.d d, .d (.lst ds), .d (.str x)] => match isDr d, strL ds with
    | some t, some hands => if handsOk hands && decide (x ∈ rows hands) then some (.d (.int ((back hands x).length + if t then 1 else 0)), M) else F_fewest_failing ss M
    | _, _ => F_fewest_failing ss M
  | _ => F_fewest_failing ss M
theorem Q_few_eq : F_fewest_failing = Q_few := by
  funext ss M
  unfold Q_few
  split
  · split
    · rename_i e1 e2
      split
      · rename_i hc
        simp only [Bool.and_eq_true, decide_eq_true_eq] at hc
        rw [isDr_some e1, strL_some e2]
        exact s_few _ _ _ M hc.1 hc.2
      · rfl
    · rfl
  · rfl
end K66
namespace K66
open PySem L2 G
abbrev st1 : SF := (sPar 4 5 (aCons (eTree (cLc (iRange1 (eFn F__law_take (aCons (eVar 1) (aCons (eCst (D.int 6)) aNil)))) (gVar 3) tTrue (eBin gAdd (eCst (D.str (PySem.Str.ofString "h"))) (eCall gStr (aCons (eVar 3) aNil))) (List.map (fun x => x.snd) [(PySem.Str.ofString "at", 3)]))) (aCons (eBin gEq (eFn F__law_take (aCons (eVar 1) (aCons (eCst (D.int 2)) aNil))) (eCst (D.int 0))) aNil)))
abbrev st2 : SF := (sPar 6 7 (aCons (eDrop (eMake (PySem.Str.ofString "Draft") F_Draft___init__ (aCons (eCst (D.int 7)) (aCons (eCst (D.str (PySem.Str.ofString "dora"))) (aCons (eCst (D.str (PySem.Str.ofString "paul"))) (aCons (eCst (D.int 1)) (aCons (eVar 5) aNil))))))) (aCons (eBin gAdd (eLst (aCons (eCst (D.str (PySem.Str.ofString "dora"))) aNil)) (eVar 4)) aNil)))
abbrev st3 : SF := (sPar3 9 10 11 (aCons (eLive (cCall cDict (aCons (eTree (cLc (iSeq (eVar 7)) (gVar 8) tTrue (eTup (aCons (eVar 8) (aCons (eCst (D.int 0)) aNil))) (List.map (fun x => x.snd) [(PySem.Str.ofString "hand", 8)]))) aNil))) (aCons (eCst (D.int 0)) (aCons (eCst (D.int 0)) aNil))))
abbrev st4 : SF := (sFor (iSeq (eFn F__law_sets (aCons (eBin gAdd (eVar 7) (eLst (aCons (eCst (D.str (PySem.Str.ofString "paul"))) aNil))) aNil))) (gVar 12) (sSeq (sAsg (eFn F_judge_draft (aCons (eVar 6) (aCons (eVar 4) (aCons (eVar 12) aNil)))) (gVar 13)) (sIf (eTru mtB (ptT fa) (eVar 13)) (sAsg (eBin gAdd (eVar 11) (eCst (D.int 1))) (gVar 11)) (sSeq (sAsg (eTup (aCons (eBin gAdd (eBin dIdx (eVar 9) (eAttr (PySem.Str.ofString "hand") (eVar 13))) (eCst (D.int 1))) (aCons (eBin gAdd (eVar 10) (eCall gLen (aCons (eAttr (PySem.Str.ofString "way") (eVar 13)) aNil))) aNil))) (gTupD 2 (gsCons (gSubD (eVar 9) (eAttr (PySem.Str.ofString "hand") (eVar 13))) (gsCons (gVar 10) gsNil)))) (sIf (tOr_ (eTest (eBin (gI fun i j => D.bl (decide (i < j))) (eCall gLen (aCons (eVar 12) aNil)) (eFn F_fewest_failing (aCons (eVar 6) (aCons (eVar 4) (aCons (eAttr (PySem.Str.ofString "hand") (eVar 13)) aNil)))))) (eTest (eBin gNe (eFn F_losses (aCons (eVar 6) (aCons (eVar 4) (aCons (eVar 12) aNil)))) (eTree (cDisp (dpCons (eAttr (PySem.Str.ofString "hand") (eVar 13)) (eCst (D.int 7)) dpNil)))))) (sRet (eCst (D.bl false))) sNext)))))
abbrev sq4 : SF := (sFor (iSeq (eFn F__law_sets (aCons (eBin gAdd (eVar 7) (eLst (aCons (eCst (D.str (PySem.Str.ofString "paul"))) aNil))) aNil))) (gVar 12) (sSeq (sAsg (eFn Q_judge (aCons (eVar 6) (aCons (eVar 4) (aCons (eVar 12) aNil)))) (gVar 13)) (sIf (eTru mtB (ptT fa) (eVar 13)) (sAsg (eBin gAdd (eVar 11) (eCst (D.int 1))) (gVar 11)) (sSeq (sAsg (eTup (aCons (eBin gAdd (eBin dIdx (eVar 9) (eAttr (PySem.Str.ofString "hand") (eVar 13))) (eCst (D.int 1))) (aCons (eBin gAdd (eVar 10) (eCall gLen (aCons (eAttr (PySem.Str.ofString "way") (eVar 13)) aNil))) aNil))) (gTupD 2 (gsCons (gSubD (eVar 9) (eAttr (PySem.Str.ofString "hand") (eVar 13))) (gsCons (gVar 10) gsNil)))) (sIf (tOr_ (eTest (eBin (gI fun i j => D.bl (decide (i < j))) (eCall gLen (aCons (eVar 12) aNil)) (eFn Q_few (aCons (eVar 6) (aCons (eVar 4) (aCons (eAttr (PySem.Str.ofString "hand") (eVar 13)) aNil)))))) (eTest (eBin gNe (eFn Q_losses (aCons (eVar 6) (aCons (eVar 4) (aCons (eVar 12) aNil)))) (eTree (cDisp (dpCons (eAttr (PySem.Str.ofString "hand") (eVar 13)) (eCst (D.int 7)) dpNil)))))) (sRet (eCst (D.bl false))) sNext)))))
theorem st4_eq : st4 = sq4 := by
  unfold st4 sq4
  rw [Q_judge_eq, Q_losses_eq, Q_few_eq]
abbrev st5 : SF := (sPar 14 15 (aCons (eCall gLen (aCons (eVar 7) aNil)) (aCons (eIf (eTru mtB (ptT fa) (eVar 5)) (eCst (D.int 1)) (eCst (D.int 2))) aNil)))
abbrev st6 : SF := (sIf (eTest (eBin gNe (eVar 11) (eIf (eTru mtB (ptT fa) (eVar 5)) (eFn F__law_power (aCons (eVar 14) aNil)) (eCst (D.int 0))))) (sRet (eCst (D.bl false))) sNext)
abbrev st7 : SF := (sFor (iEnum (eVar 7)) (gTupD 2 (gsCons (gVar 3) (gsCons (gVar 8) gsNil))) (sSeq (sAsg (eIf (eTest (eBin (gI fun i j => D.bl (decide (i < j))) (eVar 3) (eBin (gI fun i j => D.int (i - j)) (eVar 14) (eCst (D.int 1))))) (eFn F__law_power (aCons (eBin (gI fun i j => D.int (i - j)) (eBin (gI fun i j => D.int (i - j)) (eVar 14) (eCst (D.int 1))) (eVar 3)) aNil)) (eCst (D.int 2))) (gVar 16)) (sIf (eTest (eBin gNe (eBin dIdx (eVar 9) (eVar 8)) (eBin gMul (eVar 16) (eVar 15)))) (sRet (eCst (D.bl false))) sNext)))
abbrev st8 : SF := (sIf (eTest (eBin gNe (eVar 10) (eBin gMul (eBin gMul (eBin (gI fun i j => D.int (i - j)) (eVar 14) (eCst (D.int 1))) (eFn F__law_power (aCons (eBin (gI fun i j => D.int (i - j)) (eVar 14) (eCst (D.int 1))) aNil))) (eVar 15)))) (sRet (eCst (D.bl false))) sNext)
abbrev bodyL : SF := (sSeq st1 (sSeq st2 (sSeq st3 (sSeq st4 (sSeq st5 (sSeq st6 (sSeq st7 st8)))))))
def restL : SF := (sSeq st2 (sSeq st3 (sSeq st4 (sSeq st5 (sSeq st6 (sSeq st7 st8))))))
def restQ : SF := (sSeq st2 (sSeq st3 (sSeq sq4 (sSeq st5 (sSeq st6 (sSeq st7 st8))))))
theorem rest_eq : restL = restQ := by
  unfold restL restQ
  rw [st4_eq]
theorem law_eq : P_law.1 = sSeq (sAsg (eLive (cLst (aCons (eVar 0) (aCons (eCst (D.int 0)) aNil)))) (gVar 1)) (sSeq (sFor (iRange1 (eCst (D.int 2))) (gVar 2) bodyL) (sRet (eCst (D.bl true)))) := rfl
def okB (o : Option Out) : Bool := match o with
  | some (.nx _ _) => true
  | _ => false
def hs (n : Nat) : D := .lst (([.str "h0", .str "h1", .str "h2", .str "h3", .str "h4"] : List D).take n)
end K66
namespace K66
open PySem L2 G
def strip (o : Option Out) : Option (Option (Option S) × Option (Option S) × Nat × Option Cell × Nat) := match o with
  | some (.nx e M) => some (e[0]?, e[1]?, e.length, M[0]?, M.length)
  | _ => none
theorem rt_0_0_true (ns : List Int) (j : Int) (z2 z3 z6 z7 z8 z9 z10 z11 z12 z13 z14 z15 z16 : Option S) : strip (restQ [some (.d (.scr ns)), some (.hd 0), z2, z3, some (.d (hs 0)), some (.d (.bl true)), z6, z7, z8, z9, z10, z11, z12, z13, z14, z15, z16] [.lst [.scr ns, .int j]]) = some (some (some (.d (.scr ns))), some (some (.hd 0)), 17, some (.lst [.scr ns, .int j]), 2) := by kernel_rfl
theorem rt_0_0_false (ns : List Int) (j : Int) (z2 z3 z6 z7 z8 z9 z10 z11 z12 z13 z14 z15 z16 : Option S) : strip (restQ [some (.d (.scr ns)), some (.hd 0), z2, z3, some (.d (hs 0)), some (.d (.bl false)), z6, z7, z8, z9, z10, z11, z12, z13, z14, z15, z16] [.lst [.scr ns, .int j]]) = some (some (some (.d (.scr ns))), some (some (.hd 0)), 17, some (.lst [.scr ns, .int j]), 2) := by kernel_rfl
theorem rt_0_1_true (ns : List Int) (j : Int) (z2 z3 z6 z7 z8 z9 z10 z11 z12 z13 z14 z15 z16 : Option S) : strip (restQ [some (.d (.scr ns)), some (.hd 0), z2, z3, some (.d (hs 1)), some (.d (.bl true)), z6, z7, z8, z9, z10, z11, z12, z13, z14, z15, z16] [.lst [.scr ns, .int j]]) = some (some (some (.d (.scr ns))), some (some (.hd 0)), 17, some (.lst [.scr ns, .int j]), 2) := by kernel_rfl
theorem rt_0_1_false (ns : List Int) (j : Int) (z2 z3 z6 z7 z8 z9 z10 z11 z12 z13 z14 z15 z16 : Option S) : strip (restQ [some (.d (.scr ns)), some (.hd 0), z2, z3, some (.d (hs 1)), some (.d (.bl false)), z6, z7, z8, z9, z10, z11, z12, z13, z14, z15, z16] [.lst [.scr ns, .int j]]) = some (some (some (.d (.scr ns))), some (some (.hd 0)), 17, some (.lst [.scr ns, .int j]), 2) := by kernel_rfl
theorem rt_0_2_true (ns : List Int) (j : Int) (z2 z3 z6 z7 z8 z9 z10 z11 z12 z13 z14 z15 z16 : Option S) : strip (restQ [some (.d (.scr ns)), some (.hd 0), z2, z3, some (.d (hs 2)), some (.d (.bl true)), z6, z7, z8, z9, z10, z11, z12, z13, z14, z15, z16] [.lst [.scr ns, .int j]]) = some (some (some (.d (.scr ns))), some (some (.hd 0)), 17, some (.lst [.scr ns, .int j]), 2) := by kernel_rfl
theorem rt_0_2_false (ns : List Int) (j : Int) (z2 z3 z6 z7 z8 z9 z10 z11 z12 z13 z14 z15 z16 : Option S) : strip (restQ [some (.d (.scr ns)), some (.hd 0), z2, z3, some (.d (hs 2)), some (.d (.bl false)), z6, z7, z8, z9, z10, z11, z12, z13, z14, z15, z16] [.lst [.scr ns, .int j]]) = some (some (some (.d (.scr ns))), some (some (.hd 0)), 17, some (.lst [.scr ns, .int j]), 2) := by kernel_rfl
theorem rt_0_3_true (ns : List Int) (j : Int) (z2 z3 z6 z7 z8 z9 z10 z11 z12 z13 z14 z15 z16 : Option S) : strip (restQ [some (.d (.scr ns)), some (.hd 0), z2, z3, some (.d (hs 3)), some (.d (.bl true)), z6, z7, z8, z9, z10, z11, z12, z13, z14, z15, z16] [.lst [.scr ns, .int j]]) = some (some (some (.d (.scr ns))), some (some (.hd 0)), 17, some (.lst [.scr ns, .int j]), 2) := by kernel_rfl
theorem rt_0_3_false (ns : List Int) (j : Int) (z2 z3 z6 z7 z8 z9 z10 z11 z12 z13 z14 z15 z16 : Option S) : strip (restQ [some (.d (.scr ns)), some (.hd 0), z2, z3, some (.d (hs 3)), some (.d (.bl false)), z6, z7, z8, z9, z10, z11, z12, z13, z14, z15, z16] [.lst [.scr ns, .int j]]) = some (some (some (.d (.scr ns))), some (some (.hd 0)), 17, some (.lst [.scr ns, .int j]), 2) := by kernel_rfl
theorem rt_0_4_true (ns : List Int) (j : Int) (z2 z3 z6 z7 z8 z9 z10 z11 z12 z13 z14 z15 z16 : Option S) : strip (restQ [some (.d (.scr ns)), some (.hd 0), z2, z3, some (.d (hs 4)), some (.d (.bl true)), z6, z7, z8, z9, z10, z11, z12, z13, z14, z15, z16] [.lst [.scr ns, .int j]]) = some (some (some (.d (.scr ns))), some (some (.hd 0)), 17, some (.lst [.scr ns, .int j]), 2) := by kernel_rfl
theorem rt_0_4_false (ns : List Int) (j : Int) (z2 z3 z6 z7 z8 z9 z10 z11 z12 z13 z14 z15 z16 : Option S) : strip (restQ [some (.d (.scr ns)), some (.hd 0), z2, z3, some (.d (hs 4)), some (.d (.bl false)), z6, z7, z8, z9, z10, z11, z12, z13, z14, z15, z16] [.lst [.scr ns, .int j]]) = some (some (some (.d (.scr ns))), some (some (.hd 0)), 17, some (.lst [.scr ns, .int j]), 2) := by kernel_rfl
theorem rt_0_5_true (ns : List Int) (j : Int) (z2 z3 z6 z7 z8 z9 z10 z11 z12 z13 z14 z15 z16 : Option S) : strip (restQ [some (.d (.scr ns)), some (.hd 0), z2, z3, some (.d (hs 5)), some (.d (.bl true)), z6, z7, z8, z9, z10, z11, z12, z13, z14, z15, z16] [.lst [.scr ns, .int j]]) = some (some (some (.d (.scr ns))), some (some (.hd 0)), 17, some (.lst [.scr ns, .int j]), 2) := by kernel_rfl
theorem rt_0_5_false (ns : List Int) (j : Int) (z2 z3 z6 z7 z8 z9 z10 z11 z12 z13 z14 z15 z16 : Option S) : strip (restQ [some (.d (.scr ns)), some (.hd 0), z2, z3, some (.d (hs 5)), some (.d (.bl false)), z6, z7, z8, z9, z10, z11, z12, z13, z14, z15, z16] [.lst [.scr ns, .int j]]) = some (some (some (.d (.scr ns))), some (some (.hd 0)), 17, some (.lst [.scr ns, .int j]), 2) := by kernel_rfl
theorem rt_1_0_true (ns : List Int) (j : Int) (z2 z3 z6 z7 z8 z9 z10 z11 z12 z13 z14 z15 z16 : Option S) (c : Cell) : strip (restQ [some (.d (.scr ns)), some (.hd 0), z2, z3, some (.d (hs 0)), some (.d (.bl true)), z6, z7, z8, z9, z10, z11, z12, z13, z14, z15, z16] [.lst [.scr ns, .int j], c]) = some (some (some (.d (.scr ns))), some (some (.hd 0)), 17, some (.lst [.scr ns, .int j]), 3) := by kernel_rfl
theorem rt_1_0_false (ns : List Int) (j : Int) (z2 z3 z6 z7 z8 z9 z10 z11 z12 z13 z14 z15 z16 : Option S) (c : Cell) : strip (restQ [some (.d (.scr ns)), some (.hd 0), z2, z3, some (.d (hs 0)), some (.d (.bl false)), z6, z7, z8, z9, z10, z11, z12, z13, z14, z15, z16] [.lst [.scr ns, .int j], c]) = some (some (some (.d (.scr ns))), some (some (.hd 0)), 17, some (.lst [.scr ns, .int j]), 3) := by kernel_rfl
theorem rt_1_1_true (ns : List Int) (j : Int) (z2 z3 z6 z7 z8 z9 z10 z11 z12 z13 z14 z15 z16 : Option S) (c : Cell) : strip (restQ [some (.d (.scr ns)), some (.hd 0), z2, z3, some (.d (hs 1)), some (.d (.bl true)), z6, z7, z8, z9, z10, z11, z12, z13, z14, z15, z16] [.lst [.scr ns, .int j], c]) = some (some (some (.d (.scr ns))), some (some (.hd 0)), 17, some (.lst [.scr ns, .int j]), 3) := by kernel_rfl
theorem rt_1_1_false (ns : List Int) (j : Int) (z2 z3 z6 z7 z8 z9 z10 z11 z12 z13 z14 z15 z16 : Option S) (c : Cell) : strip (restQ [some (.d (.scr ns)), some (.hd 0), z2, z3, some (.d (hs 1)), some (.d (.bl false)), z6, z7, z8, z9, z10, z11, z12, z13, z14, z15, z16] [.lst [.scr ns, .int j], c]) = some (some (some (.d (.scr ns))), some (some (.hd 0)), 17, some (.lst [.scr ns, .int j]), 3) := by kernel_rfl
theorem rt_1_2_true (ns : List Int) (j : Int) (z2 z3 z6 z7 z8 z9 z10 z11 z12 z13 z14 z15 z16 : Option S) (c : Cell) : strip (restQ [some (.d (.scr ns)), some (.hd 0), z2, z3, some (.d (hs 2)), some (.d (.bl true)), z6, z7, z8, z9, z10, z11, z12, z13, z14, z15, z16] [.lst [.scr ns, .int j], c]) = some (some (some (.d (.scr ns))), some (some (.hd 0)), 17, some (.lst [.scr ns, .int j]), 3) := by kernel_rfl
theorem rt_1_2_false (ns : List Int) (j : Int) (z2 z3 z6 z7 z8 z9 z10 z11 z12 z13 z14 z15 z16 : Option S) (c : Cell) : strip (restQ [some (.d (.scr ns)), some (.hd 0), z2, z3, some (.d (hs 2)), some (.d (.bl false)), z6, z7, z8, z9, z10, z11, z12, z13, z14, z15, z16] [.lst [.scr ns, .int j], c]) = some (some (some (.d (.scr ns))), some (some (.hd 0)), 17, some (.lst [.scr ns, .int j]), 3) := by kernel_rfl
theorem rt_1_3_true (ns : List Int) (j : Int) (z2 z3 z6 z7 z8 z9 z10 z11 z12 z13 z14 z15 z16 : Option S) (c : Cell) : strip (restQ [some (.d (.scr ns)), some (.hd 0), z2, z3, some (.d (hs 3)), some (.d (.bl true)), z6, z7, z8, z9, z10, z11, z12, z13, z14, z15, z16] [.lst [.scr ns, .int j], c]) = some (some (some (.d (.scr ns))), some (some (.hd 0)), 17, some (.lst [.scr ns, .int j]), 3) := by kernel_rfl
theorem rt_1_3_false (ns : List Int) (j : Int) (z2 z3 z6 z7 z8 z9 z10 z11 z12 z13 z14 z15 z16 : Option S) (c : Cell) : strip (restQ [some (.d (.scr ns)), some (.hd 0), z2, z3, some (.d (hs 3)), some (.d (.bl false)), z6, z7, z8, z9, z10, z11, z12, z13, z14, z15, z16] [.lst [.scr ns, .int j], c]) = some (some (some (.d (.scr ns))), some (some (.hd 0)), 17, some (.lst [.scr ns, .int j]), 3) := by kernel_rfl
theorem rt_1_4_true (ns : List Int) (j : Int) (z2 z3 z6 z7 z8 z9 z10 z11 z12 z13 z14 z15 z16 : Option S) (c : Cell) : strip (restQ [some (.d (.scr ns)), some (.hd 0), z2, z3, some (.d (hs 4)), some (.d (.bl true)), z6, z7, z8, z9, z10, z11, z12, z13, z14, z15, z16] [.lst [.scr ns, .int j], c]) = some (some (some (.d (.scr ns))), some (some (.hd 0)), 17, some (.lst [.scr ns, .int j]), 3) := by kernel_rfl
theorem rt_1_4_false (ns : List Int) (j : Int) (z2 z3 z6 z7 z8 z9 z10 z11 z12 z13 z14 z15 z16 : Option S) (c : Cell) : strip (restQ [some (.d (.scr ns)), some (.hd 0), z2, z3, some (.d (hs 4)), some (.d (.bl false)), z6, z7, z8, z9, z10, z11, z12, z13, z14, z15, z16] [.lst [.scr ns, .int j], c]) = some (some (some (.d (.scr ns))), some (some (.hd 0)), 17, some (.lst [.scr ns, .int j]), 3) := by kernel_rfl
theorem rt_1_5_true (ns : List Int) (j : Int) (z2 z3 z6 z7 z8 z9 z10 z11 z12 z13 z14 z15 z16 : Option S) (c : Cell) : strip (restQ [some (.d (.scr ns)), some (.hd 0), z2, z3, some (.d (hs 5)), some (.d (.bl true)), z6, z7, z8, z9, z10, z11, z12, z13, z14, z15, z16] [.lst [.scr ns, .int j], c]) = some (some (some (.d (.scr ns))), some (some (.hd 0)), 17, some (.lst [.scr ns, .int j]), 3) := by kernel_rfl
theorem rt_1_5_false (ns : List Int) (j : Int) (z2 z3 z6 z7 z8 z9 z10 z11 z12 z13 z14 z15 z16 : Option S) (c : Cell) : strip (restQ [some (.d (.scr ns)), some (.hd 0), z2, z3, some (.d (hs 5)), some (.d (.bl false)), z6, z7, z8, z9, z10, z11, z12, z13, z14, z15, z16] [.lst [.scr ns, .int j], c]) = some (some (some (.d (.scr ns))), some (some (.hd 0)), 17, some (.lst [.scr ns, .int j]), 3) := by kernel_rfl
end K66
namespace K66
open PySem L2 G
theorem s_number (ns : List Int) (j : Int) (hj : 0 ≤ j) (hl : ns.length ≤ 63) (M : Ms) : ∃ v : Int, F__law_number [.d (.scr ns), .d (.int j)] M = some (.d (.int v), M) := by
  -- the cell and the turn
  have hz := two_line
  obtain ⟨cell, turn, ht, hf⟩ : ∃ cell turn : Int, 0 ≤ turn ∧ ∀ env : Ev, env[0]? = some (some (.d (.scr ns))) → env[1]? = some (some (.d (.int j))) →
      (eIf (eTest (eBin gNe (eVar 0) (eLst aNil))) (eTup (aCons (eBin dIdx (eVar 0) (eBin gMod (eVar 1) (eCall gLen (aCons (eVar 0) aNil)))) (aCons (eBin gDiv (eVar 1) (eCall gLen (aCons (eVar 0) aNil))) aNil)))
        (eTup (aCons (eCst (D.int 12345)) (aCons (eCst (D.int 0)) aNil)))) env M = some (.d (.tup [.int cell, .int turn]), M) := by
    by_cases h : ns = []
    · refine ⟨12345, 0, by omega, fun env h0 h1 => ?_⟩
      subst h
      simp [h0, h1, ne_nil, hz]
    · have hp : 0 < ns.length := List.length_pos_iff.mpr h
      obtain ⟨v, hv⟩ := scr_at (ns := ns) (i := j % (ns.length : Int)) (Int.emod_nonneg _ (by omega)) (Int.emod_lt_of_pos _ (by omega))
      refine ⟨v, j / ns.length, Int.ediv_nonneg hj (by omega), fun env h0 h1 => ?_⟩
      have e : ns.isEmpty = false := by cases ns <;> simp at h ⊢
      have h3 : (ns.length : Int) < 1073741824 := by omega
      have h4 : (0 : Int) < ns.length := by omega
      simp [h0, h1, ne_nil, e, hv, hz, h3, hp]
  have hcl : 0 ≤ turn % 60 ∧ turn % 60 < 60 := ⟨Int.emod_nonneg _ (by omega), Int.emod_lt_of_pos _ (by omega)⟩
  -- the loop
  have loop : ∀ (rest : Int), ∃ (rest' : Int) (z : Option S), forD (gVar 5) (sAsg (eBin gDiv (eVar 4) (eCst (D.int 1009))) (gVar 4)) (rangeD 0 (turn % 60).toNat) [some (.d (.scr ns)), some (.d (.int j)), some (.d (.int cell)), some (.d (.int turn)), some (.d (.int rest)), none, none] M
      = some (.nx [some (.d (.scr ns)), some (.d (.int j)), some (.d (.int cell)), some (.d (.int turn)), some (.d (.int rest')), z, none] M) := fun rest => by
    obtain ⟨e2, M2, h1, r', z, h2, h3⟩ := for_range (g := gVar 5) (body := sAsg (eBin gDiv (eVar 4) (eCst (D.int 1009))) (gVar 4)) (fun i env M' => ∃ (r : Int) (z : Option S), env = [some (.d (.scr ns)), some (.d (.int j)), some (.d (.int cell)), some (.d (.int turn)), some (.d (.int r)), z, none] ∧ M = M') 0
      (env := [some (.d (.scr ns)), some (.d (.int j)), some (.d (.int cell)), some (.d (.int turn)), some (.d (.int rest)), none, none]) (M := M) (n := (turn % 60).toNat) ⟨rest, none, rfl, rfl⟩ (by
        rintro i x env M' hx hi ⟨r, z, rfl, rfl⟩
        refine ⟨[some (.d (.scr ns)), some (.d (.int j)), some (.d (.int cell)), some (.d (.int turn)), some (.d (.int r)), some (.d (.int x)), none], M, [some (.d (.scr ns)), some (.d (.int j)), some (.d (.int cell)), some (.d (.int turn)), some (.d (.int (r / 1009))), some (.d (.int x)), none], M, ?_, .inl ?_, r / 1009, _, rfl, rfl⟩
        · simp
        · simp)
    subst h2 h3
    exact ⟨r', z, h1⟩
  have hp : (0 : Int) ≤ turn % 60 := hcl.1
  have hb1 : -4611686018427387904 ≤ turn % 60 ∧ turn % 60 < 4611686018427387904 := by omega
  obtain ⟨rest', z, hloop⟩ := loop (if turn < 60 then cell - 10 ^ 18 else 0)
  simp only [F__law_number, r_fnD, B__law_number, P__law_number, r_sSeq, r_sAsg]
  rw [hf _ rfl rfl]
  have m1 : ∀ x : Int, mulOk 977 x = true := fun x => mulOk_l (by decide) (by decide)
  have m2 : ∀ x : Int, mulOk x 48271 = true := fun x => mulOk_r (by decide) (by decide)
  have m3 : ∀ x : Int, mulOk 31 x = true := fun x => mulOk_l (by decide) (by decide)
  have m4 : ∀ x : Int, mulOk (x % 2147483647) (x % 2147483647) = true := fun x => mulOk_l (by have := Int.emod_nonneg x (show (2147483647 : Int) ≠ 0 by decide); omega) (by have := Int.emod_lt_of_pos x (show (0 : Int) < 2147483647 by decide); omega)
  have m5 : ∀ x : Int, mulOk 40503 x = true := fun x => mulOk_l (by decide) (by decide)
  have m6 : ∀ x : Int, mulOk x 69621 = true := fun x => mulOk_r (by decide) (by decide)
  by_cases h60 : turn < 60
  · simp [h60] at hloop
    by_cases hr : 0 < rest'
    · simp [h60, hloop, hb1, hr]
    · simp [h60, hloop, hb1, hr, m1, m2, m3, m4, m5, m6]
  · simp [h60] at hloop
    by_cases hr : 0 < rest'
    · simp [h60, hloop, hb1, hr]
    · simp [h60, hloop, hb1, hr, m1, m2, m3, m4, m5, m6]
/-- a draw: the handle is k-th -/
theorem s_take (ns : List Int) (j many : Int) (hj : 0 ≤ j) (hl : ns.length ≤ 63) (hm : 0 < many) (M : Ms) (k : Nat) (hk : M[k]? = some (.lst [.scr ns, .int j])) :
    ∃ r : Int, 0 ≤ r ∧ r < many ∧ F__law_take [.hd k, .d (.int many)] M = some (.d (.int r), M.set k (.lst [.scr ns, .int (j + 1)])) := by
  obtain ⟨v, hv⟩ := s_number ns (j + 1) (by omega) hl (M.set k (.lst [.scr ns, .int (j + 1)]))
  refine ⟨v % many, Int.emod_nonneg _ (by omega), Int.emod_lt_of_pos _ hm, ?_⟩
  have hkl : k < M.length := (List.getElem?_eq_some_iff.mp hk).1
  have hg : (ixN 2 1) = some 1 := by decide
  have aug : sAugS gIadd (eVar 0) (eCst (D.int 1)) (eCst (D.int 1)) [some (.hd k), some (.d (.int many))] M = some (.nx [some (.hd k), some (.d (.int many))] (M.set k (.lst [.scr ns, .int (j + 1)]))) := by
    simp [hk, augGet, Cell.toD, setCell, hg]
  simp only [F__law_take, r_fnD, B__law_take, P__law_take]
  simp [-r_sAugS, aug, hk, hv, hkl, Cell.toD, hm]
  exact List.take_of_length_le (by simp)
end K66
namespace K66
open PySem L2 G
theorem rest_true (l : Bool) (n : Nat) (hn : n < 6) (t : Bool) (ns : List Int) (j : Int) (e : Ev) (M : Ms) (he : e.length = 17) (h0 : e[0]? = some (some (.d (.scr ns)))) (h1 : e[1]? = some (some (.hd 0))) (h4 : e[4]? = some (some (.d (hs n)))) (h5 : e[5]? = some (some (.d (.bl t)))) (hM : ∃ c, M = .lst [.scr ns, .int j] :: (if l then [c] else [])) :
    strip (restQ e M) = some (some (some (.d (.scr ns))), some (some (.hd 0)), 17, some (.lst [.scr ns, .int j]), M.length + 1) := by
  obtain ⟨c, rfl⟩ := hM
  match e, he with
  | [a0, a1, a2, a3, a4, a5, a6, a7, a8, a9, a10, a11, a12, a13, a14, a15, a16], _ =>
    simp only [List.getElem?_cons_zero, List.getElem?_cons_succ, Option.some.injEq] at h0 h1 h4 h5
    subst h0 h1 h4 h5
    match n, hn with
    | 0, _ =>
      cases l
      · cases t
        · exact rt_0_0_false ..
        · exact rt_0_0_true ..
      · cases t
        · exact rt_1_0_false ..
        · exact rt_1_0_true ..
    | 1, _ =>
      cases l
      · cases t
        · exact rt_0_1_false ..
        · exact rt_0_1_true ..
      · cases t
        · exact rt_1_1_false ..
        · exact rt_1_1_true ..
    | 2, _ =>
      cases l
      · cases t
        · exact rt_0_2_false ..
        · exact rt_0_2_true ..
      · cases t
        · exact rt_1_2_false ..
        · exact rt_1_2_true ..
    | 3, _ =>
      cases l
      · cases t
        · exact rt_0_3_false ..
        · exact rt_0_3_true ..
      · cases t
        · exact rt_1_3_false ..
        · exact rt_1_3_true ..
    | 4, _ =>
      cases l
      · cases t
        · exact rt_0_4_false ..
        · exact rt_0_4_true ..
      · cases t
        · exact rt_1_4_false ..
        · exact rt_1_4_true ..
    | 5, _ =>
      cases l
      · cases t
        · exact rt_0_5_false ..
        · exact rt_0_5_true ..
      · cases t
        · exact rt_1_5_false ..
        · exact rt_1_5_true ..
theorem strip_some {o : Option Out} {a b : Option (Option S)} {n m : Nat} {c : Option Cell} (h : strip o = some (a, b, n, c, m)) : ∃ e M, o = some (.nx e M) ∧ e[0]? = a ∧ e[1]? = b ∧ e.length = n ∧ M[0]? = c ∧ M.length = m := by
  unfold strip at h
  split at h
  · cases h; exact ⟨_, _, rfl, rfl, rfl, rfl, rfl, rfl⟩
  · cases h
def hname (i : Nat) : Str := (["h0", "h1", "h2", "h3", "h4"] : List Str).getD i ""
theorem hname_eq : ∀ i : Nat, i < 5 → gAdd (.str "h") ((gStr [.int (i : Nat)]).getD .non) = some (.str (hname i)) ∧ (gStr [.int (i : Nat)]).isSome = true := by
  have h1 : ∀ i, i < 5 → (Str.ofString "h").length + (hname i).length ≤ 4 := by decide +kernel
  intro i hi
  match i, hi with
  | 0, _ => exact ⟨by with_unfolding_all rfl, by with_unfolding_all rfl⟩
  | 1, _ => exact ⟨by with_unfolding_all rfl, by with_unfolding_all rfl⟩
  | 2, _ => exact ⟨by with_unfolding_all rfl, by with_unfolding_all rfl⟩
  | 3, _ => exact ⟨by with_unfolding_all rfl, by with_unfolding_all rfl⟩
  | 4, _ => exact ⟨by with_unfolding_all rfl, by with_unfolding_all rfl⟩
end K66
namespace K66
open PySem L2 G
theorem hs_eq : ∀ n : Nat, n < 6 → D.lst ((List.range n).map fun i => D.str (hname i)) = hs n := by
  intro n hn
  match n, hn with
  | 0, _ => rfl
  | 1, _ => rfl
  | 2, _ => rfl
  | 3, _ => rfl
  | 4, _ => rfl
  | 5, _ => rfl
theorem s_st1 (ns : List Int) (hl : ns.length ≤ 63) (j : Int) (hj : 0 ≤ j) (e : Ev) (M : Ms) (he : e.length = 17) (h0 : e[0]? = some (some (.d (.scr ns)))) (h1 : e[1]? = some (some (.hd 0))) (hM : M[0]? = some (.lst [.scr ns, .int j])) :
    ∃ (n : Nat) (t : Bool), n < 6 ∧ st1 e M = some (.nx ((e.set 4 (some (.d (hs n)))).set 5 (some (.d (.bl t)))) (M.set 0 (.lst [.scr ns, .int (j + 2)]))) := by
  have hM0 : 0 < M.length := (List.getElem?_eq_some_iff.mp hM).1
  obtain ⟨r1, q1, q2, q3⟩ := s_take ns j 6 hj hl (by decide) M 0 hM
  have hM1 : (M.set 0 (.lst [.scr ns, .int (j + 1)]))[0]? = some (.lst [.scr ns, .int (j + 1)]) := List.getElem?_set_self hM0
  obtain ⟨r2, p1, p2, p3⟩ := s_take ns (j + 1) 2 (by omega) hl (by decide) _ 0 hM1
  obtain ⟨n, hn⟩ : ∃ n : Nat, r1 = n := ⟨r1.toNat, by omega⟩
  subst hn
  have hn : n < 6 := by omega
  refine ⟨n, decide (r2 = 0), hn, ?_⟩
  have hc : cLc (iRange1 (eFn F__law_take (aCons (eVar 1) (aCons (eCst (D.int 6)) aNil)))) (gVar 3) tTrue (eBin gAdd (eCst (D.str (PySem.Str.ofString "h"))) (eCall gStr (aCons (eVar 3) aNil))) [3] e M = some (.lst ((List.range n).map fun i => D.str (hname i)), M.set 0 (.lst [.scr ns, .int (j + 1)])) := by
    refine cLc_map (List.range n) (fun i => .int (0 + (i : Nat))) _ ?_ ?_ ?_
    · have hb : -4611686018427387904 ≤ (n : Int) ∧ (n : Int) < 4611686018427387904 := by omega
      simp [h1, q3, hb, rangeD]
    · intro i hi acc
      have hi : i < 5 := by have := List.mem_range.mp hi; omega
      obtain ⟨g1, g2⟩ := hname_eq i hi
      refine ⟨(wipeE e [3]).set 3 (some (.d (.int (0 + (i : Nat))))), by simp [wipeE, he], ?_⟩
      cases e5 : gStr [.int (i : Nat)] with
      | none => rw [e5] at g2; cases g2
      | some d =>
        rw [e5] at g1
        simp only [Option.getD_some] at g1
        simp [wipeE, he, e5, g1]
    · rw [List.length_range, sizeLine_eq]; omega
  have hset : (M.set 0 (.lst [.scr ns, .int (j + 1)])).set 0 (.lst [.scr ns, .int (j + 1 + 1)]) = M.set 0 (.lst [.scr ns, .int (j + 2)]) := by
    rw [List.set_set]
    congr 5
    omega
  rw [hset] at p3
  show sPar 4 5 _ e M = _
  rw [r_sPar, r_aCons, r_eTree]
  simp only [List.map_cons, List.map_nil]
  rw [hc]
  have he' : 4 < e.length ∧ 5 < e.length := by omega
  simp only [r_aCons, r_aNil, r_eBin, r_eFn, r_eVar, r_eCst, h1, p3, r_view_d, r_gEqI, r_toD_l, hs_eq n hn, he', and_self, if_true]
theorem law_true : ∀ ns : List Int, ns.length ≤ 63 → F_law [.d (.scr ns)] [] = some (.d (.bl true), []) := by
  intro ns hl
  have hz := two_line
  refine fn_x rfl rfl ?_
  show isX (.bl true) [] (P_law.1 _ _)
  rw [law_eq]
  refine seq_nx (e1 := [some (.d (.scr ns)), some (.hd 0)] ++ List.replicate 15 none) (M1 := [.lst [.scr ns, .int 0]]) (by simp [hz, List.replicate]) ?_
  refine seq_forP (List.range 2) (fun i => .int (0 + (i : Nat))) (fun i e M => ∃ j : Int, 0 ≤ j ∧ e.length = 17 ∧ e[0]? = some (some (.d (.scr ns))) ∧ e[1]? = some (some (.hd 0)) ∧ M[0]? = some (.lst [.scr ns, .int j]) ∧ M.length = 1 + i) (M1 := [.lst [.scr ns, .int 0]]) (by simp [rangeD]) ⟨0, by omega, by simp, by simp, by simp, by simp, by simp⟩ ?_ ?_
  · rintro i x e M hx ⟨j, hj, he, h0, h1, hM, hml⟩
    have hi : i < 2 := by
      have := (List.getElem?_eq_some_iff.mp hx).1
      simpa using this
    have e0 : (e.set 2 (some (.d (.int (0 + (x : Nat))))))[0]? = some (some (.d (.scr ns))) := by rw [List.getElem?_set_ne (by decide)]; exact h0
    have e1 : (e.set 2 (some (.d (.int (0 + (x : Nat))))))[1]? = some (some (.hd 0)) := by rw [List.getElem?_set_ne (by decide)]; exact h1
    obtain ⟨n, t, hn, hst⟩ := s_st1 ns hl j hj (e.set 2 (some (.d (.int (0 + (x : Nat)))))) M (by simp [he]) e0 e1 hM
    have hM0 : 0 < M.length := by omega
    have hr := rest_true (decide (i = 1)) n hn t ns (j + 2) (((e.set 2 (some (.d (.int (0 + (x : Nat)))))).set 4 (some (.d (hs n)))).set 5 (some (.d (.bl t)))) (M.set 0 (.lst [.scr ns, .int (j + 2)])) (by simp [he])
      (by rw [List.getElem?_set_ne (by decide), List.getElem?_set_ne (by decide)]; exact e0) (by rw [List.getElem?_set_ne (by decide), List.getElem?_set_ne (by decide)]; exact e1)
      (by rw [List.getElem?_set_ne (by decide), List.getElem?_set_self (by simp [he])]) (by rw [List.getElem?_set_self (by simp [he])]) (by
        match i, hi, M, hml with
        | 0, _, [m0], _ => exact ⟨m0, by simp⟩
        | 1, _, [m0, m1], _ => exact ⟨m1, by simp⟩)
    obtain ⟨e2, M2, r1, r2, r3, r4, r5, r6⟩ := strip_some hr
    refine ⟨e2, M2, .inl ?_, j + 2, by omega, r4, r2, r3, r5, by rw [r6, List.length_set]; omega⟩
    rw [← rest_eq] at r1
    rw [r_turn, r_gVar, if_pos (by omega)]
    show sSeq st1 restL _ _ = _
    rw [r_sSeq, hst]
    exact r1
  · rintro e M ⟨j, hj, he, h0, h1, hM, hml⟩
    exact isX_app (M' := []) (by simp; rfl)
end K66
namespace K66
open PySem L2 G
/-! ### the head -/
abbrev R : PySem.W.OpenRow := PySem.W.OpenLaw.row PySem.Challenge.rw_goodsbypapers_k66_failing_hands_counted
abbrev hk : PySem.W.Hook := hookX 4 fa fn
def ob (s : PySem.W.SharedT) : He.AlD := obsXG 4 fa fn (HandSHeadRun.getT s)
theorem ob_eq (s : PySem.W.SharedT) : ob s = hk.obs s.abs := obsXG_eq (HandSHeadRun.getT_eq s)
def loose : List Str := (["_wall", "__name__", "GoodsError", "BadPart", "SMALL", "FIGURES", "is_integer", "is_number", "check_number", "is_name", "check_name", "is_row", "Draft", "Paid", "Bears", "check_passed", "holder_of", "asked_back", "judge_draft", "losses", "fewest_failing", "_law_number", "_law_take", "_law_power", "_law_sets"] : List Str)
theorem run (w : World) : HandSHeadRun.RunEq R (PySem.W.view R.prog [28]) hk ob 4000 loose w := by
  intro os
  kernel_rfl
theorem facts {P : Program} {w : World} {K : PySem.W.Frag} {h : Heap} {mg : Str → Option Value} {f : Addr} (X : K.In h) (G : h.Ns mainGlobals mg) (hfa : mg ("law" : Str) = some (.ref f)) (c : SaysX fa fn K)
    (hf : ∀ ns : List Int, ns.length ≤ 63 → F_law [.d (.scr ns)] [] = some (.d (.bl true), [])) :
    ∃ fd : FuncData, (∀ (s : Shared) (v : Value), BindsTo s fd ⟨[v], []⟩ [("script", v)]) ∧ ∀ base : Heap, K.In base → base.Ns mainGlobals mg → FnOk P w K mg base CX0 43 f fd ["script"] (spLaw K 63) := by
  obtain ⟨fd, D⟩ := c.def_ 21 (d := d_law) rfl
  have ef : f = He.fAd K ("law", none) := by
    have L0 := mkW_low c csok P w h X G
    have e := hfa.symm.trans (L0.glo mf109)
    cases e
    rfl
  subst ef
  have b := FunD.bindsA (ps := ["script"]) D fun _ _ _ _ _ _ us hl => match us, hl with | [_], _ => rfl
  refine ⟨fd, fun s v => b s [v] rfl, fun base _ _ => ?_⟩
  obtain ⟨fd', D', ok⟩ := join c (mkW c csok P w mg base) rfl (mkW_low c csok P w base X G)
  have e : fd' = fd := by
    obtain ⟨oc, od, dV, kV, doc, pm, an, cdv, ct, osl, e1, l1, _⟩ := D.ex
    obtain ⟨oc', od', dV', kV', doc', pm', an', cdv', ct', osl', e1', l1', _⟩ := D'.ex
    have := l1.symm.trans l1'
    simp only [Option.some.injEq, Obj.mk.injEq, Data.func.injEq] at this
    exact this.2.2.1.symm
  subst e
  exact law_ok (W := mkW c csok P w mg base) ok hf
end K66
open PySem PySem.W PySem.Calls PyProof.Rows
theorem PySem.Challenge.cw_goodsbypapers_k66_failing_hands_counted_holds : PySem.Challenge.rw_goodsbypapers_k66_failing_hands_counted.Holds := by
  w_on; o_law
  refine HandSHeadRun.head_any (r := OpenLaw.row PySem.Challenge.rw_goodsbypapers_k66_failing_hands_counted) (q := view (OpenLaw.row PySem.Challenge.rw_goodsbypapers_k66_failing_hands_counted).prog [28]) (H := K66.hk) (ob := K66.ob) (M := 4000) (loose := K66.loose) (d := HandSHeadRun.topDef (OpenLaw.row PySem.Challenge.rw_goodsbypapers_k66_failing_hands_counted).prog 28) (kwd := []) K66.ob_eq
    (by kernel_rfl) (fun s => by kernel_rfl) K66.run (by kernel_rfl) (by kernel_rfl) (by kernel_rfl) (by rfl) (by first | assumption | decide +kernel) (by decide +kernel) ⟨rfl, rfl, rfl, rfl, rfl, by decide +kernel⟩ ?hw ?hc
  case hw => w_witness2
  case hc =>
    refine L2.walk_ofE (l := PySem.Challenge.rw_goodsbypapers_k66_failing_hands_counted) (n := 63) (k := 43) (x := "script") (CX := L2.CX0) rfl (by decide) (by kernel_rfl) ⟨rfl, by decide, by decide⟩ ?F (fun _ _ _ _ z => z)
    intro w mg fa h Y GG hmg0
    obtain ⟨K, KX, c⟩ := Y
    have hmg : mg ("law" : PySem.Str) = some (.ref fa) := by
      have e : (HandSHeadRun.topDef (OpenLaw.row PySem.Challenge.rw_goodsbypapers_k66_failing_hands_counted).prog 28).name = ("law" : PySem.Str) := by kernel_rfl
      rw [← e]
      exact hmg0
    obtain ⟨fd, hb, hF⟩ := K66.facts (P := (PySem.Challenge.rw_goodsbypapers_k66_failing_hands_counted).prog) (w := w) KX GG hmg c K66.law_true
    exact ⟨K, fd, G.spLaw K 63, KX, hb, fun H a ns hl _ hS => ⟨a, ns, rfl, hl, hS, fun _ => rfl⟩, hF⟩
