import PyProof.Rows.All
import Wide.All
import OpenK.AllK
import Wide.FinOn
import HandS.ForMost
import HandS.Wide
import HandS.IsInst
import HandS.Flow
import HandS.Style
import HandS.Conv
import HandS.TupAny
import PySem.Challenge.RW_skipahead_k01_names
set_option Elab.async false
set_option linter.all false
set_option maxRecDepth 100000
set_option maxHeartbeats 4000000
/-! SK: what a def computes, as a plain function over data; part A: data, states, readings -/
namespace SK
open PySem L2

/-- data: what a value stands for, whatever the addresses are -/
inductive D where
  | non
  | bl (b : Bool)
  | int (i : Int)
  | str (s : Str)
  | tup (xs : List D)
  | lst (xs : List D)
  | dct (kvs : List (Key × D))
  | ins (c : Str) (fs : List (Str × D))
  | cls (c : Str)
  | ty (n : String)
  | scr (ns : List Int)

/-- a slot: shared data (never changed any more); an object of our own, by its content; one that is lent to us -/
inductive SV where
  | sh (d : D)
  | ow (d : D)
  | bw (d : D)
abbrev SS := List (Option SV)

/-- a list that is read and never written: the script -/
def SqS (K : PySem.W.Frag) (G : Hp) (a : Addr) (xs : List V) : Prop :=
  (∃ o, G a = some (.frz o (.lst xs))) ∨ ∃ (o : Obj) (its : Array Value) (n : Nat), K.lookup a = some o ∧ o.cls = .type "list" ∧ o.dict = none ∧ o.data = .seq its n ∧ its.size ≤ sizeLine ∧ Vals xs its.toList
section
variable (K : PySem.W.Frag) (mg : Str → Option Value) (G : Hp)
mutual
def DR : D → V → Prop
  | .non, v => v = .non
  | .bl b, v => v = .bl b
  | .int i, v => v = .int i
  | .str s, v => v = .str s
  | .tup ds, v => ∃ a xs, v = .ref a ∧ SqT K G a xs ∧ DRs ds xs
  | .lst ds, v => ∃ a xs, v = .ref a ∧ G a = some (.lst xs) ∧ DRs ds xs
  | .dct kvs, v => ∃ a ys, v = .ref a ∧ G a = some (.dK ys) ∧ DRk kvs ys
  | .ins c fs, v => ∃ a C dx ys, v = .ref a ∧ mg c = some (.ref C) ∧ G a = some (.ins C dx ys) ∧ DRf fs ys
  | .cls c, v => ∃ C, v = .ref C ∧ mg c = some (.ref C)
  | .ty n, v => v = .ty n
  | .scr ns, v => ∃ a, v = .ref a ∧ SqS K G a (ns.map V.int)
def DRs : List D → List V → Prop
  | [], xs => xs = []
  | d :: ds, xs => ∃ v vs, xs = v :: vs ∧ DR d v ∧ DRs ds vs
def DRk : List (Key × D) → List (Key × V) → Prop
  | [], ys => ys = []
  | (k, d) :: r, ys => ∃ v vs, ys = (k, v) :: vs ∧ DR d v ∧ DRk r vs
def DRf : List (Str × D) → List (Str × V) → Prop
  | [], ys => ys = []
  | (k, d) :: r, ys => ∃ v vs, ys = (k, v) :: vs ∧ DR d v ∧ DRf r vs
end
end

/-- what the ghost heap holds is so -/
def isDk : HO → Bool
  | .dK _ => true
  | .dT _ => true
  | _ => false
def In (G H : Hp) : Prop := ∀ a o, G a = some o → H a = some o ∨ (isDk o = true ∧ ∃ b, H a = some (.frz b o))
theorem In.refl (G : Hp) : In G G := fun _ _ e => .inl e
theorem In.tup {G H : Hp} (i : In G H) {K : PySem.W.Frag} {a : Addr} {xs : List V} (h : SqT K G a xs) : SqT K H a xs := by
  rcases h with (h | ⟨o, h⟩) | h
  · rcases i a _ h with e | ⟨e, _⟩
    · exact .inl (.inl e)
    · cases e
  · rcases i a _ h with e | ⟨e, _⟩
    · exact .inl (.inr ⟨o, e⟩)
    · cases e
  · exact .inr h
theorem In.lst {G H : Hp} (i : In G H) {a : Addr} {xs : List V} (h : G a = some (.lst xs)) : H a = some (.lst xs) := by
  rcases i a _ h with e | ⟨e, _⟩
  · exact e
  · cases e
theorem In.ins {G H : Hp} (i : In G H) {a C dx : Addr} {fs : List (Str × V)} (h : G a = some (.ins C dx fs)) : H a = some (.ins C dx fs) := by
  rcases i a _ h with e | ⟨e, _⟩
  · exact e
  · cases e
theorem In.dk {G H : Hp} (i : In G H) {a : Addr} {kvs : List (Key × V)} (h : G a = some (.dK kvs)) : Rd H a (.dK kvs) := by
  rcases i a _ h with e | ⟨_, b, e⟩
  · exact .inl e
  · exact .inr ⟨b, e⟩
theorem In.scr {G H : Hp} (i : In G H) {K : PySem.W.Frag} {a : Addr} {xs : List V} (h : SqS K G a xs) : SqS K H a xs := by
  rcases h with ⟨o, h⟩ | h
  · rcases i a _ h with e | ⟨e, _⟩
    · exact .inl ⟨o, e⟩
    · cases e
  · exact .inr h
theorem SqS.sq {K : PySem.W.Frag} {H : Hp} {a : Addr} {xs : List V} (h : SqS K H a xs) : SqL K H a xs := by
  rcases h with ⟨o, h⟩ | h
  · exact .inl (.inr ⟨o, h⟩)
  · exact .inr h
abbrev Sub (G G' : Hp) : Prop := ∀ a o, G a = some o → G' a = some o
theorem Sub.refl (G : Hp) : Sub G G := fun _ _ e => e
theorem Sub.trans {G G1 G2 : Hp} (a : Sub G G1) (b : Sub G1 G2) : Sub G G2 := fun x o e => b x o (a x o e)
theorem Sub.new {G : Hp} {p : Addr} {o : HO} (h : G p = none) : Sub G (upd G p o) := fun a u e => by
  rw [upd_ne (ne_of_none e h)]
  exact e
theorem Sub.tup {G H : Hp} (i : Sub G H) {K : PySem.W.Frag} {a : Addr} {xs : List V} (h : SqT K G a xs) : SqT K H a xs := by
  rcases h with (h | ⟨o, h⟩) | h
  · exact .inl (.inl (i _ _ h))
  · exact .inl (.inr ⟨o, i _ _ h⟩)
  · exact .inr h

section
variable {K : PySem.W.Frag} {mg : Str → Option Value} {G G' : Hp}
mutual
theorem DR.mono (h : Sub G G') : ∀ (d : D) (v : V), DR K mg G d v → DR K mg G' d v
  | .non, v, r => by rw [DR] at r ⊢; exact r
  | .bl b, v, r => by rw [DR] at r ⊢; exact r
  | .int b, v, r => by rw [DR] at r ⊢; exact r
  | .str b, v, r => by rw [DR] at r ⊢; exact r
  | .tup ds, v, r => by
    rw [DR] at r ⊢
    obtain ⟨a, xs, e, s, q⟩ := r
    exact ⟨a, xs, e, h.tup s, DRs.mono h ds xs q⟩
  | .lst ds, v, r => by
    rw [DR] at r ⊢
    obtain ⟨a, xs, e, s, q⟩ := r
    exact ⟨a, xs, e, h _ _ s, DRs.mono h ds xs q⟩
  | .dct kvs, v, r => by
    rw [DR] at r ⊢
    obtain ⟨a, ys, e, s, q⟩ := r
    exact ⟨a, ys, e, h _ _ s, DRk.mono h kvs ys q⟩
  | .ins c fs, v, r => by
    rw [DR] at r ⊢
    obtain ⟨a, C, dx, ys, e, m, s, q⟩ := r
    exact ⟨a, C, dx, ys, e, m, h _ _ s, DRf.mono h fs ys q⟩
  | .cls c, v, r => by rw [DR] at r ⊢; exact r
  | .ty n, v, r => by rw [DR] at r ⊢; exact r
  | .scr ns, v, r => by
    rw [DR] at r ⊢
    obtain ⟨a, e, s⟩ := r
    refine ⟨a, e, ?_⟩
    rcases s with ⟨o, s⟩ | s
    · exact .inl ⟨o, h _ _ s⟩
    · exact .inr s
theorem DRs.mono (h : Sub G G') : ∀ (ds : List D) (xs : List V), DRs K mg G ds xs → DRs K mg G' ds xs
  | [], xs, r => by rw [DRs] at r ⊢; exact r
  | d :: ds, xs, r => by
    rw [DRs] at r ⊢
    obtain ⟨v, vs, e, r1, r2⟩ := r
    exact ⟨v, vs, e, DR.mono h d v r1, DRs.mono h ds vs r2⟩
theorem DRk.mono (h : Sub G G') : ∀ (ds : List (Key × D)) (xs : List (Key × V)), DRk K mg G ds xs → DRk K mg G' ds xs
  | [], xs, r => by rw [DRk] at r ⊢; exact r
  | (k, d) :: ds, xs, r => by
    rw [DRk] at r ⊢
    obtain ⟨v, vs, e, r1, r2⟩ := r
    exact ⟨v, vs, e, DR.mono h d v r1, DRk.mono h ds vs r2⟩
theorem DRf.mono (h : Sub G G') : ∀ (ds : List (Str × D)) (xs : List (Str × V)), DRf K mg G ds xs → DRf K mg G' ds xs
  | [], xs, r => by rw [DRf] at r ⊢; exact r
  | (k, d) :: ds, xs, r => by
    rw [DRf] at r ⊢
    obtain ⟨v, vs, e, r1, r2⟩ := r
    exact ⟨v, vs, e, DR.mono h d v r1, DRf.mono h ds vs r2⟩
end
theorem DRs.cons {d : D} {v : V} {ds : List D} {vs : List V} (h : DR K mg G d v) (r : DRs K mg G ds vs) : DRs K mg G (d :: ds) (v :: vs) := by
  rw [DRs]
  exact ⟨v, vs, rfl, h, r⟩
theorem DRs.nil : DRs K mg G [] [] := by rw [DRs]
theorem DRs.length : ∀ {ds : List D} {vs : List V}, DRs K mg G ds vs → vs.length = ds.length
  | [], vs, r => by rw [DRs] at r; subst r; rfl
  | d :: ds, vs, r => by
    rw [DRs] at r
    obtain ⟨v, ws, rfl, _, r2⟩ := r
    show ws.length + 1 = ds.length + 1
    rw [DRs.length r2]
theorem DRs.get : ∀ {ds : List D} {vs : List V} {i : Nat} {d : D}, DRs K mg G ds vs → ds[i]? = some d → ∃ v, vs[i]? = some v ∧ DR K mg G d v
  | [], vs, i, d, r, e => by simp at e
  | c :: ds, vs, 0, d, r, e => by
    rw [DRs] at r
    obtain ⟨v, ws, rfl, r1, r2⟩ := r
    simp at e
    subst e
    exact ⟨v, rfl, r1⟩
  | c :: ds, vs, i + 1, d, r, e => by
    rw [DRs] at r
    obtain ⟨v, ws, rfl, r1, r2⟩ := r
    obtain ⟨w, e2, r3⟩ := DRs.get (i := i) r2 (by simpa using e)
    exact ⟨w, by simpa using e2, r3⟩
theorem DRs.get' : ∀ {ds : List D} {vs : List V} {i : Nat} {v : V}, DRs K mg G ds vs → vs[i]? = some v → ∃ d, ds[i]? = some d ∧ DR K mg G d v
  | [], vs, i, v, r, e => by rw [DRs] at r; rw [r] at e; simp at e
  | c :: ds, vs, 0, d, r, e => by
    rw [DRs] at r
    obtain ⟨v, ws, rfl, r1, r2⟩ := r
    simp at e
    subst e
    exact ⟨c, rfl, r1⟩
  | c :: ds, vs, i + 1, d, r, e => by
    rw [DRs] at r
    obtain ⟨v, ws, rfl, r1, r2⟩ := r
    obtain ⟨w, e2, r3⟩ := DRs.get' (i := i) r2 (by simpa using e)
    exact ⟨w, by simpa using e2, r3⟩
theorem DRs.append : ∀ {ds es : List D} {vs ws : List V}, DRs K mg G ds vs → DRs K mg G es ws → DRs K mg G (ds ++ es) (vs ++ ws)
  | [], es, vs, ws, r, s => by rw [DRs] at r; subst r; exact s
  | d :: ds, es, vs, ws, r, s => by
    rw [DRs] at r
    obtain ⟨v, us, rfl, r1, r2⟩ := r
    exact DRs.cons r1 (DRs.append r2 s)
end

/-! ### states -/
section
variable (K : PySem.W.Frag) (mg : Str → Option Value)
def Own (G H : Hp) : D → Addr → Prop
  | .lst ds, p => ∃ xs, H p = some (.lst xs) ∧ DRs K mg G ds xs
  | .dct kvs, p => ∃ ys, H p = some (.dK ys) ∧ DRk K mg G kvs ys
  | .ins c fs, p => ∃ C dx ys, mg c = some (.ref C) ∧ H p = some (.ins C dx ys) ∧ DRf K mg G fs ys
  | _, _ => False
/-- slot i holds an object of ours (or a lent one) -/
def Hs (S : SS) (i : Nat) (d : D) : Prop := S[i]? = some (some (.ow d)) ∨ S[i]? = some (some (.bw d))
/-- the addresses of such -/
def OA (σ : L2.St) (S : SS) (a : Addr) : Prop := ∃ i d, Hs S i d ∧ σ[i]? = some (some (.ref a))
structure RelS (B : List (Nat × Addr)) (G H : Hp) (σ : L2.St) (S : SS) : Prop where
  len : S.length = σ.length
  sh : ∀ (i : Nat) (d : D), S[i]? = some (some (SV.sh d)) → ∃ v, σ[i]? = some (some v) ∧ DR K mg G d v
  ow : ∀ (i : Nat) (d : D), Hs S i d → ∃ p, σ[i]? = some (some (.ref p)) ∧ G p = none ∧ Own K mg G H d p
  dis : ∀ (i j : Nat) (d e : D) (p : Addr), Hs S i d → Hs S j e → σ[i]? = some (some (.ref p)) → σ[j]? = some (some (.ref p)) → i = j
  bw : ∀ (i : Nat) (p : Addr), (i, p) ∈ B → (∃ d, S[i]? = some (some (SV.bw d))) ∧ σ[i]? = some (some (.ref p))
end
def skel : Option SV → Option SV
  | some (.ow _) => some (.ow .non)
  | some (.bw _) => some (.bw .non)
  | x => x
/-- the same but for the contents of our own objects -/
def Pat (S S' : SS) : Prop := S'.map skel = S.map skel
theorem Pat.refl (S : SS) : Pat S S := rfl
theorem Pat.trans {S S1 S2 : SS} (a : Pat S S1) (b : Pat S1 S2) : Pat S S2 := Eq.trans b a
theorem Pat.symm {S S1 : SS} (a : Pat S S1) : Pat S1 S := Eq.symm a
theorem Pat.at {S S' : SS} (h : Pat S S') (i : Nat) : (S'[i]?).map skel = (S[i]?).map skel := by
  have e : (S'.map skel)[i]? = (S.map skel)[i]? := congrArg (fun l => l[i]?) h
  rw [List.getElem?_map, List.getElem?_map] at e
  exact e
theorem Pat.hs {S S' : SS} (h : Pat S S') {i : Nat} {d : D} (q : Hs S' i d) : ∃ d', Hs S i d' := by
  have e := h.at i
  rcases q with q | q
  · rw [q] at e
    cases r : S[i]? with
    | none => rw [r] at e; cases e
    | some x =>
      rw [r] at e
      cases x with
      | none => cases e
      | some y =>
        cases y with
        | sh _ => cases e
        | ow d' => exact ⟨d', .inl r⟩
        | bw _ => cases e
  · rw [q] at e
    cases r : S[i]? with
    | none => rw [r] at e; cases e
    | some x =>
      rw [r] at e
      cases x with
      | none => cases e
      | some y =>
        cases y with
        | sh _ => cases e
        | bw d' => exact ⟨d', .inr r⟩
        | ow _ => cases e
theorem Pat.oa {S S' : SS} (h : Pat S S') {σ : L2.St} {a : Addr} (q : OA σ S' a) : OA σ S a := by
  obtain ⟨i, d, hs, e⟩ := q
  obtain ⟨d', hs'⟩ := h.hs hs
  exact ⟨i, d', hs', e⟩

section
variable (K : PySem.W.Frag) (mg : Str → Option Value) (B : List (Nat × Addr))
/-- from one state to a later one of the same frame; the slots may have changed -/
structure NxS (σ : L2.St) (G H : Hp) (S : SS) (σ' : L2.St) (G' H' : Hp) (S' : SS) : Prop where
  sub : Sub G G'
  new : ∀ a o, G' a = some o → G a = some o ∨ H a = none ∨ OA σ S a
  inn : In G' H'
  kp : ∀ a o, H a = some o → ¬ OA σ S a → H' a = some o
  some_ : ∀ a o, H a = some o → ∃ o', H' a = some o'
  oa : ∀ a, OA σ' S' a → OA σ S a ∨ H a = none
  rel : RelS K mg B G' H' σ' S'
end
section
variable {K : PySem.W.Frag} {mg : Str → Option Value} {B : List (Nat × Addr)} {σ σ1 σ2 : L2.St} {G G1 G2 H H1 H2 : Hp} {S S1 S2 : SS}
theorem NxS.refl (i : In G H) (r : RelS K mg B G H σ S) : NxS K mg B σ G H S σ G H S := ⟨Sub.refl G, fun _ _ e => .inl e, i, fun _ _ e _ => e, fun _ o e => ⟨o, e⟩, fun _ q => .inl q, r⟩
theorem NxS.trans (a : NxS K mg B σ G H S σ1 G1 H1 S1) (b : NxS K mg B σ1 G1 H1 S1 σ2 G2 H2 S2) : NxS K mg B σ G H S σ2 G2 H2 S2 := by
  have back : ∀ x, H1 x = none → H x = none := fun x e => by
    cases q : H x with
    | none => rfl
    | some o =>
      obtain ⟨o', e'⟩ := a.some_ x o q
      rw [e] at e'
      cases e'
  refine ⟨a.sub.trans b.sub, fun x o e => ?_, b.inn, fun x o e n => ?_, fun x o e => ?_, fun x q => ?_, b.rel⟩
  · rcases b.new x o e with q | q | q
    · exact a.new x o q
    · exact .inr (.inl (back x q))
    · rcases a.oa x q with z | z
      · exact .inr (.inr z)
      · exact .inr (.inl z)
  · have e1 := a.kp x o e n
    refine b.kp x o e1 fun q => ?_
    rcases a.oa x q with z | z
    · exact n z
    · rw [e] at z; cases z
  · obtain ⟨o1, e1⟩ := a.some_ x o e
    exact b.some_ x o1 e1
  · rcases b.oa x q with z | z
    · exact a.oa x z
    · exact .inr (back x z)
end

/-! ### the readings -/
abbrev M (α : Type) := SS → Option (α × SS)
def mPure {α : Type} (a : α) : M α := fun s => some (a, s)
def mBind {α β : Type} (m : M α) (f : α → M β) : M β := fun s => match m s with
  | some (a, s') => f a s'
  | none => none
def mNone {α : Type} : M α := fun _ => none
def mOpt {α : Type} (o : Option α) : M α := fun s => o.map fun a => (a, s)
theorem mBind_some {α β : Type} {m : M α} {f : α → M β} {s : SS} {r : β × SS} (h : mBind m f s = some r) : ∃ a s', m s = some (a, s') ∧ f a s' = some r := by
  unfold mBind at h
  split at h
  · exact ⟨_, _, by assumption, h⟩
  · cases h
theorem mOpt_some {α : Type} {o : Option α} {s s' : SS} {a : α} (h : mOpt o s = some (a, s')) : o = some a ∧ s' = s := by
  unfold mOpt at h
  cases o with
  | none => cases h
  | some b => cases h; exact ⟨rfl, rfl⟩
inductive Out where
  | nx | bk | ct | rt (d : D)

section
variable (K : PySem.W.Frag) (mg : Str → Option Value)
/-- m runs from here, with cs in hand, to F -/
def W {α : Type} (cs : List (D × V)) (m : M α) (σ : L2.St) (H : Hp) (F : α → L2.St → Hp → Hp → Prop) : Prop :=
  ∃ B G S r S', In G H ∧ RelS K mg B G H σ S ∧ (∀ c ∈ cs, DR K mg G c.1 c.2) ∧ m S = some (r, S') ∧ ∀ σ' G' H', NxS K mg B σ G H S σ' G' H' S' → F r σ' G' H'
def tM (m : M D) : TE := fun σ H Q => W K mg [] m σ H fun d σ' G' H' => σ' = σ → ∀ v, DR K mg G' d v → Q v H'
def tMT (m : M Bool) : TT := fun σ H Q => W K mg [] m σ H fun b σ' _ H' => σ' = σ → Q b H'
def tMA (m : M (List D)) : TA := fun σ H Q => W K mg [] m σ H fun ds σ' G' H' => σ' = σ → ∀ vs, DRs K mg G' ds vs → Q vs H'
def Reach (D0 : Ends) (r : Out) (σ' : L2.St) (G' H' : Hp) : Prop := match r with
  | .nx => D0.nx σ' H'
  | .bk => D0.bk σ' H'
  | .ct => D0.ct σ' H'
  | .rt d => ∀ v, DR K mg G' d v → D0.rt v H'
def tMS (m : M Out) : TS := fun D0 σ H => W K mg [] m σ H (Reach K mg D0)
def tMG (m : D → M Unit) : TG := fun v σ H Q => ∃ d, W K mg [(d, v)] (m d) σ H fun _ σ' _ H' => Q σ' H'
/-- what is walked: the items, as data -/
def ItOk (G0 : Hp) (J : It) (ds : List D) : Prop := ∀ (B : List (Nat × Addr)) (σ : L2.St) (G H : Hp) (S : SS), Sub G0 G → In G H → RelS K mg B G H σ S → ∀ i,
  (∀ d, ds[i]? = some d → J.go i H ∧ ∀ x H', J.yld i H x H' → ∃ G', NxS K mg B σ G H S σ G' H' S ∧ DR K mg G' d x) ∧ (ds.length ≤ i → J.stop i H)
def tMI (m : M (List D)) : TI := fun σ H R => W K mg [] m σ H fun ds σ' G' H' => σ' = σ → ∀ J, ItOk K mg G' J ds → R J H'
end
structure DE (X : Cx) (e : Expr) (m : M D) : Prop where
  pe : PE X e (tM X.K X.mg m)
  pat : ∀ S d S', m S = some (d, S') → Pat S S'
structure DT (X : Cx) (e : Expr) (m : M Bool) : Prop where
  pt : PT X e (tMT X.K X.mg m)
  pat : ∀ S d S', m S = some (d, S') → Pat S S'
structure DA (X : Cx) (es : List Expr) (m : M (List D)) : Prop where
  pa : PA X es (tMA X.K X.mg m)
  pat : ∀ S d S', m S = some (d, S') → Pat S S'
  len : ∀ S d S', m S = some (d, S') → d.length = es.length
structure DS (X : Cx) (st : Stmt) (m : M Out) : Prop where
  ps : PS X st (tMS X.K X.mg m)
structure DSs (X : Cx) (st : List Stmt) (m : M Out) : Prop where
  ps : PSs X st (tMS X.K X.mg m)
structure DG (X : Cx) (tg : Expr) (m : D → M Unit) : Prop where
  pg : PG X tg (tMG X.K X.mg m)
structure DI (X : Cx) (tg iter : Expr) (m : M (List D)) : Prop where
  pi : PI X tg iter (tMI X.K X.mg m)
  pat : ∀ S d S', m S = some (d, S') → Pat S S'
theorem PE.imp {X : Cx} {e : Expr} {t u : TE} (h : PE X e t) (f : ∀ σ H Q, u σ H Q → t σ H Q) : PE X e u := ⟨fun pins s σ H Q I q => h.run pins s σ H Q I (f σ H Q q)⟩
theorem PT.imp {X : Cx} {e : Expr} {t u : TT} (h : PT X e t) (f : ∀ σ H Q, u σ H Q → t σ H Q) : PT X e u := ⟨fun pins s σ H Q I q => h.run pins s σ H Q I (f σ H Q q)⟩
theorem PA.imp {X : Cx} {e : List Expr} {t u : TA} (h : PA X e t) (f : ∀ σ H Q, u σ H Q → t σ H Q) : PA X e u := ⟨fun pos pins s σ H Q I q => h.run pos pins s σ H Q I (f σ H Q q)⟩
theorem PS.imp {X : Cx} {e : Stmt} {t u : TS} (h : PS X e t) (f : ∀ D σ H, u D σ H → t D σ H) : PS X e u := ⟨fun pins s σ H Q I q => h.run pins s σ H Q I (f Q σ H q)⟩
theorem PSs.imp {X : Cx} {e : List Stmt} {t u : TS} (h : PSs X e t) (f : ∀ D σ H, u D σ H → t D σ H) : PSs X e u := ⟨fun pins s σ H Q I q => h.run pins s σ H Q I (f Q σ H q)⟩
theorem PG.imp {X : Cx} {e : Expr} {t u : TG} (h : PG X e t) (f : ∀ v σ H Q, u v σ H Q → t v σ H Q) : PG X e u := ⟨fun pins s σ H v w Q I r q => h.run pins s σ H v w Q I r (f v σ H Q q)⟩
theorem PI.imp {X : Cx} {tg e : Expr} {t u : TI} (h : PI X tg e t) (f : ∀ σ H Q, u σ H Q → t σ H Q) : PI X tg e u := ⟨fun pins s σ H Q I q => h.run pins s σ H Q I (f σ H Q q)⟩
end SK
namespace SK
open PySem L2
section
variable {K : PySem.W.Frag} {mg : Str → Option Value} {B : List (Nat × Addr)} {σ σ1 σ2 : L2.St} {G G' G1 G2 H H' H1 H2 : Hp} {S S' S1 S2 : SS}
theorem Own.mono (s : Sub G G') {d : D} {p : Addr} (hk : ∀ o, H p = some o → H' p = some o) (h : Own K mg G H d p) : Own K mg G' H' d p := by
  cases d with
  | lst ds => obtain ⟨xs, e, r⟩ := h; exact ⟨xs, hk _ e, r.mono s⟩
  | dct kvs => obtain ⟨xs, e, r⟩ := h; exact ⟨xs, hk _ e, r.mono s⟩
  | ins c fs => obtain ⟨C, dx, ys, m, e, r⟩ := h; exact ⟨C, dx, ys, m, hk _ e, r.mono s⟩
  | _ => exact h.elim
theorem Own.some_ {d : D} {p : Addr} (h : Own K mg G H d p) : ∃ o, H p = some o := by
  cases d with
  | lst ds => obtain ⟨xs, e, r⟩ := h; exact ⟨_, e⟩
  | dct kvs => obtain ⟨xs, e, r⟩ := h; exact ⟨_, e⟩
  | ins c fs => obtain ⟨C, dx, ys, m, e, r⟩ := h; exact ⟨_, e⟩
  | _ => exact h.elim
/-- nothing is changed, something may be new -/
structure Gr (G H G' H' : Hp) : Prop where
  sub : Sub G G'
  new : ∀ a o, G' a = some o → G a = some o ∨ H a = none
  inn : In G' H'
  kp : ∀ a o, H a = some o → H' a = some o
theorem Gr.refl (i : In G H) : Gr G H G H := ⟨Sub.refl G, fun _ _ e => .inl e, i, fun _ _ e => e⟩
theorem In.none (i : In G H) {p : Addr} (h : H p = none) : G p = none := by
  cases q : G p with
  | none => rfl
  | some o =>
    rcases i p o q with e | ⟨_, b, e⟩
    · rw [h] at e; cases e
    · rw [h] at e; cases e
theorem Gr.alloc (i : In G H) {p : Addr} {o : HO} (h : H p = none) : Gr G H (upd G p o) (upd H p o) := by
  have hg := i.none h
  refine ⟨Sub.new hg, fun a u e => ?_, fun a u e => ?_, fun a u e => ?_⟩
  · by_cases q : a = p
    · subst q; exact .inr h
    · rw [upd_ne q] at e; exact .inl e
  · by_cases q : a = p
    · subst q; rw [upd_same] at e ⊢; exact .inl e
    · rw [upd_ne q] at e ⊢; exact i a u e
  · rw [upd_ne (ne_of_none e h)]; exact e
theorem Gr.trans (a : Gr G H G1 H1) (b : Gr G1 H1 G2 H2) : Gr G H G2 H2 := by
  refine ⟨a.sub.trans b.sub, fun x o e => ?_, b.inn, fun x o e => b.kp x o (a.kp x o e)⟩
  rcases b.new x o e with q | q
  · exact a.new x o q
  · refine .inr ?_
    cases r : H x with
    | none => rfl
    | some u => rw [a.kp x u r] at q; cases q
theorem Gr.rel (g : Gr G H G' H') (r : RelS K mg B G H σ S) : RelS K mg B G' H' σ S := by
  refine ⟨r.len, fun i d e => ?_, fun i d e => ?_, r.dis, r.bw⟩
  · obtain ⟨v, e1, q⟩ := r.sh i d e
    exact ⟨v, e1, q.mono g.sub⟩
  · obtain ⟨p, e1, n, q⟩ := r.ow i d e
    refine ⟨p, e1, ?_, q.mono g.sub (g.kp p)⟩
    cases z : G' p with
    | none => rfl
    | some o =>
      obtain ⟨u, hu⟩ := q.some_
      rcases g.new p o z with y | y
      · rw [n] at y; cases y
      · rw [hu] at y; cases y
theorem Gr.nx (g : Gr G H G' H') (r : RelS K mg B G H σ S) : NxS K mg B σ G H S σ G' H' S :=
  ⟨g.sub, fun a o e => (g.new a o e).imp id Or.inl, g.inn, fun a o e _ => g.kp a o e, fun a o e => ⟨o, g.kp a o e⟩, fun _ q => .inl q, g.rel r⟩

/-! ### how readings go on -/
theorem tM.mono {m : M D} {Q Q' : VK} (h : tM K mg m σ H Q) (f : ∀ v H, Q v H → Q' v H) : tM K mg m σ H Q' := by
  obtain ⟨B, G, S, r, S', a, b, c, d, k⟩ := h
  exact ⟨B, G, S, r, S', a, b, c, d, fun σ' G' H' n e v q => f _ _ (k σ' G' H' n e v q)⟩
theorem tMT.mono {m : M Bool} {Q Q' : Bool → Hp → Prop} (h : tMT K mg m σ H Q) (f : ∀ v H, Q v H → Q' v H) : tMT K mg m σ H Q' := by
  obtain ⟨B, G, S, r, S', a, b, c, d, k⟩ := h
  exact ⟨B, G, S, r, S', a, b, c, d, fun σ' G' H' n e => f _ _ (k σ' G' H' n e)⟩
theorem tMA.mono {m : M (List D)} {Q Q' : List V → Hp → Prop} (h : tMA K mg m σ H Q) (f : ∀ v H, Q v H → Q' v H) : tMA K mg m σ H Q' := by
  obtain ⟨B, G, S, r, S', a, b, c, d, k⟩ := h
  exact ⟨B, G, S, r, S', a, b, c, d, fun σ' G' H' n e v q => f _ _ (k σ' G' H' n e v q)⟩
variable {α : Type} {F : α → L2.St → Hp → Hp → Prop} {cs : List (D × V)}
theorem W.imp {m : M α} {F' : α → L2.St → Hp → Hp → Prop} (h : W K mg cs m σ H F) (f : ∀ r σ' G' H', F r σ' G' H' → F' r σ' G' H') : W K mg cs m σ H F' := by
  obtain ⟨B, G, S, r, S', a, b, c, d, k⟩ := h
  exact ⟨B, G, S, r, S', a, b, c, d, fun σ' G' H' n => f _ _ _ _ (k σ' G' H' n)⟩
theorem W.bind {ma : M D} {f : D → M α} (h : W K mg cs (mBind ma f) σ H F) : tM K mg ma σ H fun v H1 => ∃ d, W K mg ((d, v) :: cs) (f d) σ H1 F := by
  obtain ⟨B, G, S, r, S', a, b, c, e, k⟩ := h
  obtain ⟨d, S1, e1, e2⟩ := mBind_some e
  refine ⟨B, G, S, d, S1, a, b, (fun _ z => by cases z), e1, fun σ' G1 H1 n es v q => ?_⟩
  subst es
  refine ⟨d, B, G1, S1, r, S', n.inn, n.rel, fun x hx => ?_, e2, fun σ2 G2 H2 n2 => k σ2 G2 H2 (n.trans n2)⟩
  rcases List.mem_cons.mp hx with z | z
  · subst z; exact q
  · exact (c x z).mono n.sub
theorem W.bindT {ma : M Bool} {f : Bool → M α} (h : W K mg cs (mBind ma f) σ H F) : tMT K mg ma σ H fun b H1 => W K mg cs (f b) σ H1 F := by
  obtain ⟨B, G, S, r, S', a, b, c, e, k⟩ := h
  obtain ⟨d, S1, e1, e2⟩ := mBind_some e
  refine ⟨B, G, S, d, S1, a, b, (fun _ z => by cases z), e1, fun σ' G1 H1 n es => ?_⟩
  subst es
  exact ⟨B, G1, S1, r, S', n.inn, n.rel, fun x hx => (c x hx).mono n.sub, e2, fun σ2 G2 H2 n2 => k σ2 G2 H2 (n.trans n2)⟩
theorem W.bindA {ma : M (List D)} {f : List D → M α} (h : W K mg cs (mBind ma f) σ H F) : tMA K mg ma σ H fun vs H1 => ∃ ds, ds.length = vs.length ∧ W K mg (ds.zip vs ++ cs) (f ds) σ H1 F := by
  obtain ⟨B, G, S, r, S', a, b, c, e, k⟩ := h
  obtain ⟨d, S1, e1, e2⟩ := mBind_some e
  refine ⟨B, G, S, d, S1, a, b, (fun _ z => by cases z), e1, fun σ' G1 H1 n es vs q => ?_⟩
  subst es
  refine ⟨d, q.length.symm, B, G1, S1, r, S', n.inn, n.rel, fun x hx => ?_, e2, fun σ2 G2 H2 n2 => k σ2 G2 H2 (n.trans n2)⟩
  rcases List.mem_append.mp hx with z | z
  · obtain ⟨i, hi⟩ := List.getElem?_of_mem z
    rw [List.getElem?_zip_eq_some] at hi
    obtain ⟨w, h1, h2⟩ := q.get hi.1
    rw [h1] at hi
    cases hi.2
    exact h2
  · exact (c x z).mono n.sub
theorem DRs.of_zip : ∀ {ds : List D} {vs : List V}, ds.length = vs.length → (∀ c ∈ ds.zip vs, DR K mg G c.1 c.2) → DRs K mg G ds vs
  | [], [], _, _ => .nil
  | [], _ :: _, h, _ => nomatch h
  | _ :: _, [], h, _ => nomatch h
  | d :: ds, v :: vs, h, q => .cons (q (d, v) List.mem_cons_self) (DRs.of_zip (by simpa using h) fun c hc => q c (List.mem_cons_of_mem _ hc))
end

theorem pat_bind {α β : Type} {m : M α} {f : α → M β} (h1 : ∀ S d S', m S = some (d, S') → Pat S S') (h2 : ∀ a S d S', f a S = some (d, S') → Pat S S') : ∀ S d S', mBind m f S = some (d, S') → Pat S S' := fun S d S' h => by
  obtain ⟨a, S1, e1, e2⟩ := mBind_some h
  exact (h1 _ _ _ e1).trans (h2 _ _ _ _ e2)
theorem pat_opt {α : Type} {o : Option α} : ∀ S d S', mOpt o S = some (d, S') → Pat S S' := fun S d S' h => by
  obtain ⟨_, e⟩ := mOpt_some h
  subst e
  exact Pat.refl _
theorem pat_pure {α : Type} {a : α} : ∀ S d S', mPure a S = some (d, S') → Pat S S' := fun S d S' h => by
  cases h
  exact Pat.refl _

/-! ### names, constants -/
section
variable {X : Cx}
def mVar (i : Nat) : M D := fun s => match s[i]? with
  | some (some (.sh d)) => some (d, s)
  | _ => none
theorem mVar_some {i : Nat} {s s' : SS} {d : D} (h : mVar i s = some (d, s')) : s[i]? = some (some (.sh d)) ∧ s' = s := by
  unfold mVar at h
  split at h
  · cases h; exact ⟨by assumption, rfl⟩
  · cases h
theorem de_of_var {e : Expr} {i : Nat} (h : PE X e (tVar i)) : DE X e (mVar i) := by
  refine ⟨PE.imp h fun σ H Q q => ?_, fun S d S' h => ?_⟩
  · obtain ⟨B, G, S, d, S', a, b, c, e, k⟩ := q
    obtain ⟨e1, e2⟩ := mVar_some e
    subst e2
    obtain ⟨v, e3, r⟩ := b.sh i d e1
    exact ⟨v, e3, k σ G H (NxS.refl a b) rfl v r⟩
  · obtain ⟨_, e2⟩ := mVar_some h
    subst e2
    exact Pat.refl _
theorem dv (i : Nat) {x : Str} {pos : Pos} (hN : X.N[i]? = some x := by rfl) (hv : Vis X.env.scope x := by first | exact Or.inl rfl | exact Or.inr (Or.inl rfl) | exact Or.inr (Or.inr rfl)) (hd : (x == ("__debug__" : Str)) = false := by decide)
    (hcd : (x == ("__classdict__" : Str)) = false := by decide) : DE X (.Name x pos) (mVar i) := de_of_var (pe_var hN hv hd hcd)
def mC (d : D) : M D := mPure d
/-- a value that is the same in every heap -/
theorem de_of_c {e : Expr} {v : V} {d : D} (h : PE X e (tC v)) (r : ∀ G, DR X.K X.mg G d v) : DE X e (mC d) := by
  refine ⟨PE.imp h fun σ H Q q => ?_, pat_pure⟩
  obtain ⟨B, G, S, d', S', a, b, c, e, k⟩ := q
  cases e
  exact k σ G H (NxS.refl a b) rfl v (r G)
theorem de_int {i j pos} : DE X (.Constant (.int i) j pos) (mC (.int i)) := de_of_c pe_int fun G => by rw [DR]
theorem de_bl {i j pos} : DE X (.Constant (.bool i) j pos) (mC (.bl i)) := de_of_c pe_bl fun G => by rw [DR]
theorem de_non {j pos} : DE X (.Constant .none j pos) (mC .non) := de_of_c pe_non fun G => by rw [DR]
theorem de_str {i j pos} : DE X (.Constant (.str i) j pos) (mC (.str i)) := de_of_c pe_str fun G => by rw [DR]
theorem de_glob {x : Str} {v : V} {u : Value} {d : D} {pos : Pos} (hg : Gl X x) (hm : X.mg x = some u) (r : RelV v u) (hr : ∀ G, DR X.K X.mg G d v) (hd : (x == ("__debug__" : Str)) = false := by decide) : DE X (.Name x pos) (mC d) :=
  de_of_c (pe_glob hg hm r hd) hr

/-! ### operators -/
/-- r, by data, is g -/
def OpD (K : PySem.W.Frag) (mg : Str → Option Value) (r : R2) (g : D → D → Option D) : Prop := ∀ (G H : Hp) (x y : V) (dx dy d : D) (Q : VK), In G H → DR K mg G dx x → DR K mg G dy y → g dx dy = some d →
  (∀ v G' H', Gr G H G' H' → DR K mg G' d v → Q v H') → r x y H Q
def mOp (g : D → D → Option D) (a b : M D) : M D := mBind a fun x => mBind b fun y => mOpt (g x y)
variable {a b : Expr} {ma mb : M D} {pos : Pos} {g : D → D → Option D} {r : R2}
theorem tOp_of (hr : OpD X.K X.mg r g) {σ : L2.St} {H : Hp} {Q : VK} (h : tM X.K X.mg (mOp g ma mb) σ H Q) : tOp r (tM X.K X.mg ma) (tM X.K X.mg mb) σ H Q := by
  refine (W.bind h).mono fun v H1 ⟨d, w1⟩ => (W.bind w1).mono fun u H2 ⟨e, w2⟩ => ?_
  obtain ⟨B, G, S, d', S', i, rl, c, ev, k⟩ := w2
  obtain ⟨e1, e2⟩ := mOpt_some ev
  subst e2
  exact hr G H2 v u d e d' Q i (c (d, v) (by simp)) (c (e, u) (by simp)) e1 fun w G' H' gr q => k σ G' H' (gr.nx rl) rfl w q
theorem pat_op (h1 : ∀ S d S', ma S = some (d, S') → Pat S S') (h2 : ∀ S d S', mb S = some (d, S') → Pat S S') : ∀ S d S', mOp g ma mb S = some (d, S') → Pat S S' :=
  pat_bind h1 fun _ => pat_bind h2 fun _ => pat_opt
theorem de_op {op : Operator} (ho : OpR X (binaryOp op) r) (hd : OpD X.K X.mg r g) (ha : DE X a ma) (hb : DE X b mb) : DE X (.BinOp a op b pos) (mOp g ma mb) :=
  ⟨PE.imp (pe_op ho ha.pe hb.pe) fun σ H Q q => tOp_of hd q, pat_op ha.pat hb.pat⟩
theorem de_cmp {op : CmpOp} (ho : OpR X (compareOp op) r) (hd : OpD X.K X.mg r g) (ha : DE X a ma) (hb : DE X b mb) (hm : behindInMarks op b = false) : DE X (.Compare a [op] [b] pos) (mOp g ma mb) :=
  ⟨PE.imp (pe_cmpR ho ha.pe hb.pe hm) fun σ H Q q => tOp_of hd q, pat_op ha.pat hb.pat⟩
theorem de_ix (ho : IxR X r) (hd : OpD X.K X.mg r g) (ha : DE X a ma) (hb : DE X b mb) (hs : PlainIx b := by exact fun _ _ => rfl) : DE X (.Subscript a b pos) (mOp g ma mb) :=
  ⟨PE.imp (pe_ix ho ha.pe hb.pe hs) fun σ H Q q => tOp_of hd q, pat_op ha.pat hb.pat⟩
def UnD (K : PySem.W.Frag) (mg : Str → Option Value) (r : V → Hp → VK → Prop) (g : D → Option D) : Prop := ∀ (G H : Hp) (x : V) (dx d : D) (Q : VK), In G H → DR K mg G dx x → g dx = some d →
  (∀ v G' H', Gr G H G' H' → DR K mg G' d v → Q v H') → r x H Q
def mUn (g : D → Option D) (a : M D) : M D := mBind a fun x => mOpt (g x)
theorem de_un {op : UnaryOp} {r : V → Hp → VK → Prop} {g : D → Option D} (ho : UnR X (unaryOp op) r) (hd : UnD X.K X.mg r g) (ha : DE X a ma) : DE X (.UnaryOp op a pos) (mUn g ma) := by
  refine ⟨PE.imp (pe_un ho ha.pe) fun σ H Q q => ?_, pat_bind ha.pat fun _ => pat_opt⟩
  refine (W.bind q).mono fun v H1 ⟨d, w1⟩ => ?_
  obtain ⟨B, G, S, d', S', i, rl, c, ev, k⟩ := w1
  obtain ⟨e1, e2⟩ := mOpt_some ev
  subst e2
  exact hd G H1 v d d' Q i (c (d, v) (by simp)) e1 fun w G' H' gr q => k σ G' H' (gr.nx rl) rfl w q
/-- a value as a test: a bool -/
def asB : D → Option Bool
  | .bl b => some b
  | _ => none
def mB (m : M D) : M Bool := mBind m fun d => mOpt (asB d)
theorem asB_some {d : D} {b : Bool} (h : asB d = some b) : d = .bl b := by
  cases d <;> simp [asB] at h
  subst h; rfl
theorem dt_val {e : Expr} {m : M D} (h : DE X e m) (he : ∀ whole, isTrue e X.env whole = (do let v ← whole; standAt e.pos; holding [v] (truthy v)) := by intro _; rfl) : DT X e (mB m) := by
  refine ⟨PT.imp (pt_val h.pe he) fun σ H Q q => ?_, pat_bind h.pat fun _ => pat_opt⟩
  refine (W.bind q).mono fun v H1 ⟨d, w1⟩ => ?_
  obtain ⟨B, G, S, d', S', i, rl, c, ev, k⟩ := w1
  obtain ⟨e1, e2⟩ := mOpt_some ev
  subst e2
  have e3 := asB_some e1
  subst e3
  have r := c (.bl d', v) (by simp)
  rw [DR] at r
  subst r
  exact ⟨d', rfl, k σ G H1 (NxS.refl i rl) rfl⟩
theorem dt_cmp {op : CmpOp} (ho : OpR X (compareOp op) r) (hd : OpD X.K X.mg r g) (ha : DE X a ma) (hb : DE X b mb) (hm : behindInMarks op b = false) : DT X (.Compare a [op] [b] pos) (mB (mOp g ma mb)) := by
  refine ⟨PT.imp (pt_cmpR ho ha.pe hb.pe hm) fun σ H Q q => ?_, pat_bind (pat_op ha.pat hb.pat) fun _ => pat_opt⟩
  refine tOp_of hd ?_
  refine (W.bind q).mono fun v H1 ⟨d, w1⟩ => ?_
  obtain ⟨B, G, S, d', S', i, rl, c, ev, k⟩ := w1
  obtain ⟨e1, e2⟩ := mOpt_some ev
  subst e2
  have e3 := asB_some e1
  subst e3
  have r := c (.bl d', v) (by simp)
  rw [DR] at r
  subst r
  exact ⟨d', rfl, k σ G H1 (NxS.refl i rl) rfl⟩
end
end SK
namespace SK
open PySem L2
section
variable {K : PySem.W.Frag} {mg : Str → Option Value} {B : List (Nat × Addr)} {σ σ1 σ2 : L2.St} {G G' G1 G2 H H' H1 H2 : Hp} {S S' S1 S2 : SS}
variable {α : Type} {F : α → L2.St → Hp → Hp → Prop} {cs : List (D × V)}
/-- go on behind something that made a value -/
theorem W.behind {m : M α} {r : α} (rl : RelS K mg B G H σ S) (c : ∀ c ∈ cs, DR K mg G c.1 c.2) (e : m S = some (r, S')) (k : ∀ σ' G' H', NxS K mg B σ G H S σ' G' H' S' → F r σ' G' H') (g : Gr G H G' H') {d : D} {v : V} (q : DR K mg G' d v) : W K mg ((d, v) :: cs) m σ H' F := by
  refine ⟨B, G', S, r, S', g.inn, g.rel rl, fun x hx => ?_, e, fun σ2 G2 H2 n2 => k σ2 G2 H2 ((g.nx rl).trans n2)⟩
  rcases List.mem_cons.mp hx with z | z
  · subst z; exact q
  · exact (c x z).mono g.sub
theorem W.sub {m : M α} {cs' : List (D × V)} (h : W K mg cs m σ H F) (s : ∀ c ∈ cs', c ∈ cs) : W K mg cs' m σ H F := by
  obtain ⟨B, G, S, r, S', a, b, c, d, k⟩ := h
  exact ⟨B, G, S, r, S', a, b, fun x hx => c x (s x hx), d, k⟩
theorem W.get {m : M α} (h : W K mg cs m σ H F) {c : D × V} (hc : c ∈ cs) : ∃ G, In G H ∧ DR K mg G c.1 c.2 := by
  obtain ⟨B, G, S, r, S', a, b, c', d, k⟩ := h
  exact ⟨G, a, c' c hc⟩
theorem W.pure {a : α} (h : W K mg cs (mPure a) σ H F) : ∃ G, In G H ∧ (∀ c ∈ cs, DR K mg G c.1 c.2) ∧ F a σ G H := by
  obtain ⟨B, G, S, r, S', i, b, c, d, k⟩ := h
  cases d
  exact ⟨G, i, c, k σ G H (NxS.refl i b)⟩
end
section
variable {X : Cx} {a b c : Expr} {ma mb mc m : M D} {mt mu : M Bool} {pos : Pos} {g g' : D → D → Option D} {r r' : R2} {rest : List Expr}
/-! ### and, or, not -/
structure DW (X : Cx) (e : Expr) (m : M Bool) : Prop where
  pw : PW X e (tMT X.K X.mg m)
  pat : ∀ S d S', m S = some (d, S') → Pat S S'
theorem PW.imp {e : Expr} {t u : TT} (h : PW X e t) (f : ∀ σ H Q, u σ H Q → t σ H Q) : PW X e u := ⟨fun wh pins s σ H Q I q => h.run wh pins s σ H Q I (f σ H Q q)⟩
theorem DW.dt {e : Expr} {m : M Bool} (h : DW X e m) : DT X e m := ⟨h.pw.pt, h.pat⟩
def mAnd (a b : M Bool) : M Bool := mBind a fun x => if x then b else mPure false
def mOr (a b : M Bool) : M Bool := mBind a fun x => if x then mPure true else b
def mNot (a : M Bool) : M Bool := mBind a fun x => mPure (!x)
theorem pat_ite {α : Type} {x : Bool} {p q : M α} (h1 : ∀ S d S', p S = some (d, S') → Pat S S') (h2 : ∀ S d S', q S = some (d, S') → Pat S S') : ∀ S d S', (if x then p else q) S = some (d, S') → Pat S S' := by
  cases x
  · exact h2
  · exact h1
theorem dw_and1 (h : DT X a mt) : DW X (.BoolOp .And [a] pos) mt := ⟨pw_and1 h.pt, h.pat⟩
theorem dw_or1 (h : DT X a mt) : DW X (.BoolOp .Or [a] pos) mt := ⟨pw_or1 h.pt, h.pat⟩
theorem dw_and (h : DT X a mt) (h2 : DW X (.BoolOp .And (b :: rest) pos) mu) : DW X (.BoolOp .And (a :: b :: rest) pos) (mAnd mt mu) := by
  refine ⟨PW.imp (pw_and h.pt h2.pw) fun σ H Q q => ?_, pat_bind h.pat fun x => pat_ite h2.pat pat_pure⟩
  refine (W.bindT q).mono fun v H1 w1 => ?_
  cases v with
  | true => exact w1
  | false =>
    obtain ⟨G, _, _, f⟩ := W.pure w1
    exact f rfl
theorem dw_or (h : DT X a mt) (h2 : DW X (.BoolOp .Or (b :: rest) pos) mu) : DW X (.BoolOp .Or (a :: b :: rest) pos) (mOr mt mu) := by
  refine ⟨PW.imp (pw_or h.pt h2.pw) fun σ H Q q => ?_, pat_bind h.pat fun x => pat_ite pat_pure h2.pat⟩
  refine (W.bindT q).mono fun v H1 w1 => ?_
  cases v with
  | false => exact w1
  | true =>
    obtain ⟨G, _, _, f⟩ := W.pure w1
    exact f rfl
theorem dt_not (h : DT X a mt) : DT X (.UnaryOp .Not a pos) (mNot mt) := by
  refine ⟨PT.imp (pt_not h.pt) fun σ H Q q => ?_, pat_bind h.pat fun x => pat_pure⟩
  refine (W.bindT q).mono fun v H1 w1 => ?_
  obtain ⟨G, _, _, f⟩ := W.pure w1
  exact f rfl
/-- as values: the first a bool -/
def mAndV (a b : M D) : M D := mBind a fun d => match d with
  | .bl true => b
  | .bl false => mPure (.bl false)
  | _ => mNone
def mOrV (a b : M D) : M D := mBind a fun d => match d with
  | .bl true => mPure (.bl true)
  | .bl false => b
  | _ => mNone
def mNotV (a : M D) : M D := mBind a fun d => match d with
  | .bl x => mPure (.bl (!x))
  | _ => mNone
theorem pat_none {α : Type} : ∀ S d S', (mNone : M α) S = some (d, S') → Pat S S' := fun _ _ _ h => nomatch h
theorem W.noneE {K : PySem.W.Frag} {mg : Str → Option Value} {α : Type} {F : α → L2.St → Hp → Hp → Prop} {cs : List (D × V)} {σ : L2.St} {H : Hp} (h : W K mg cs mNone σ H F) : False := by
  obtain ⟨B, G, S, r, S', i, b, c, d, k⟩ := h
  cases d
theorem de_one {op} (h : DE X a m) : DE X (.BoolOp op [a] pos) m := ⟨pe_one h.pe, h.pat⟩
theorem W.bl {K : PySem.W.Frag} {mg : Str → Option Value} {α : Type} {m : M α} {F : α → L2.St → Hp → Hp → Prop} {cs : List (D × V)} {σ : L2.St} {H : Hp} {k : Bool} {v : V} (h : W K mg ((.bl k, v) :: cs) m σ H F) : v = .bl k := by
  obtain ⟨G, _, q⟩ := h.get List.mem_cons_self
  rw [DR] at q
  exact q
theorem de_and (h : DE X a ma) (h2 : DE X (.BoolOp .And (b :: rest) pos) mb) : DE X (.BoolOp .And (a :: b :: rest) pos) (mAndV ma mb) := by
  refine ⟨PE.imp (pe_and h.pe h2.pe) fun σ H Q q => ?_, pat_bind h.pat fun x => ?_⟩
  · refine (W.bind q).mono fun v H1 ⟨d, w1⟩ => ?_
    split at w1
    · refine ⟨true, w1.bl, ?_⟩
      rw [if_pos rfl]
      exact w1.sub fun _ z => by cases z
    · refine ⟨false, w1.bl, ?_⟩
      rw [if_neg Bool.false_ne_true]
      obtain ⟨G, _, _, f⟩ := W.pure w1
      exact f rfl _ (by rw [DR])
    · exact w1.noneE.elim
  · split
    · exact h2.pat
    · exact pat_pure
    · exact pat_none
theorem de_or (h : DE X a ma) (h2 : DE X (.BoolOp .Or (b :: rest) pos) mb) : DE X (.BoolOp .Or (a :: b :: rest) pos) (mOrV ma mb) := by
  refine ⟨PE.imp (pe_or h.pe h2.pe) fun σ H Q q => ?_, pat_bind h.pat fun x => ?_⟩
  · refine (W.bind q).mono fun v H1 ⟨d, w1⟩ => ?_
    split at w1
    · refine ⟨true, w1.bl, ?_⟩
      rw [if_pos rfl]
      obtain ⟨G, _, _, f⟩ := W.pure w1
      exact f rfl _ (by rw [DR])
    · refine ⟨false, w1.bl, ?_⟩
      rw [if_neg Bool.false_ne_true]
      exact w1.sub fun _ z => by cases z
    · exact w1.noneE.elim
  · split
    · exact pat_pure
    · exact h2.pat
    · exact pat_none
theorem de_not (h : DE X a ma) : DE X (.UnaryOp .Not a pos) (mNotV ma) := by
  refine ⟨PE.imp (pe_not h.pe) fun σ H Q q => ?_, pat_bind h.pat fun x => ?_⟩
  · refine (W.bind q).mono fun v H1 ⟨d, w1⟩ => ?_
    split at w1
    · refine ⟨_, w1.bl, ?_⟩
      obtain ⟨G, _, _, f⟩ := W.pure w1
      exact f rfl _ (by rw [DR])
    · exact w1.noneE.elim
  · split
    · exact pat_pure
    · exact pat_none
def mIf {α : Type} (t : M Bool) (a b : M α) : M α := mBind t fun x => if x then a else b
theorem de_if (ht : DT X c mt) (ha : DE X a ma) (hb : DE X b mb) : DE X (.IfExp c a b pos) (mIf mt ma mb) := by
  refine ⟨PE.imp (pe_ifExp ht.pt ha.pe hb.pe) fun σ H Q q => ?_, pat_bind ht.pat fun x => pat_ite ha.pat hb.pat⟩
  refine (W.bindT q).mono fun v H1 w1 => ?_
  cases v with
  | true => exact w1
  | false => exact w1
/-! ### chains -/
def mChain (g g' : D → D → Option D) (a b c : M D) : M D := mBind a fun x => mBind b fun y => mBind (mOpt (g x y)) fun z => match z with
  | .bl true => mBind c fun w => mOpt (g' y w)
  | .bl false => mPure (.bl false)
  | _ => mNone
theorem pat_chain (h1 : ∀ S d S', ma S = some (d, S') → Pat S S') (h2 : ∀ S d S', mb S = some (d, S') → Pat S S') (h3 : ∀ S d S', mc S = some (d, S') → Pat S S') : ∀ S d S', mChain g g' ma mb mc S = some (d, S') → Pat S S' := by
  refine pat_bind h1 fun x => pat_bind h2 fun y => pat_bind pat_opt fun z => ?_
  split
  · exact pat_bind h3 fun w => pat_opt
  · exact pat_pure
  · exact pat_none
theorem tChain_of (hd : OpD X.K X.mg r g) (hd' : OpD X.K X.mg r' g') {σ : L2.St} {H : Hp} {Q : VK} (h : tM X.K X.mg (mChain g g' ma mb mc) σ H Q) : tChain r r' (tM X.K X.mg ma) (tM X.K X.mg mb) (tM X.K X.mg mc) σ H Q := by
  refine (W.bind h).mono fun v H1 ⟨d, w1⟩ => (W.bind w1).mono fun u H2 ⟨e, w2⟩ => ?_
  obtain ⟨B, G, S, d', S', i, rl, c, ev, k⟩ := w2
  obtain ⟨z, S1, e1, e2⟩ := mBind_some ev
  obtain ⟨e3, e4⟩ := mOpt_some e1
  subst e4
  refine hd G H2 v u d e z _ i (c (d, v) (by simp)) (c (e, u) (by simp)) e3 fun w G' H' gr q => ?_
  have w3 := W.behind (F := fun d σ' G' H' => σ' = σ → ∀ v, DR X.K X.mg G' d v → Q v H') rl c e2 k gr q
  split at w3
  · refine ⟨true, w3.bl, ?_⟩
    rw [if_pos rfl]
    refine (W.bind w3).mono fun y H3 ⟨f, w4⟩ => ?_
    obtain ⟨B, G, S, d', S', i, rl, c, ev, k⟩ := w4
    obtain ⟨e1, e2⟩ := mOpt_some ev
    subst e2
    exact hd' G H3 u y e f d' Q i (c (e, u) (by simp)) (c (f, y) (by simp)) e1 fun w G' H' gr q => k σ G' H' (gr.nx rl) rfl w q
  · refine ⟨false, w3.bl, ?_⟩
    rw [if_neg Bool.false_ne_true]
    obtain ⟨G, _, _, f⟩ := W.pure w3
    exact f rfl _ (by rw [DR])
  · exact w3.noneE.elim
theorem de_chain {op op' : CmpOp} (ho : OpR X (compareOp op) r) (hd : OpD X.K X.mg r g) (ho' : OpR X (compareOp op') r') (hd' : OpD X.K X.mg r' g') (ha : DE X a ma) (hb : DE X b mb) (hc : DE X c mc) (hm : lastMarks [op, op'] [b, c] = false := by rfl) :
    DE X (.Compare a [op, op'] [b, c] pos) (mChain g g' ma mb mc) := ⟨PE.imp (pe_chain ho ho' ha.pe hb.pe hc.pe hm) fun σ H Q q => tChain_of hd hd' q, pat_chain ha.pat hb.pat hc.pat⟩
theorem dt_chain {op op' : CmpOp} (ho : OpR X (compareOp op) r) (hd : OpD X.K X.mg r g) (ho' : OpR X (compareOp op') r') (hd' : OpD X.K X.mg r' g') (ha : DE X a ma) (hb : DE X b mb) (hc : DE X c mc) (hm : lastMarks [op, op'] [b, c] = false := by rfl) :
    DT X (.Compare a [op, op'] [b, c] pos) (mB (mChain g g' ma mb mc)) := by
  refine ⟨PT.imp (pt_chain ho ho' ha.pe hb.pe hc.pe hm) fun σ H Q q => ?_, pat_bind (pat_chain ha.pat hb.pat hc.pat) fun _ => pat_opt⟩
  refine tChain_of hd hd' ?_
  refine (W.bind q).mono fun v H1 ⟨d, w1⟩ => ?_
  obtain ⟨B, G, S, d', S', i, rl, c, ev, k⟩ := w1
  obtain ⟨e1, e2⟩ := mOpt_some ev
  subst e2
  have e3 := asB_some e1
  subst e3
  have r := c (.bl d', v) (by simp)
  rw [DR] at r
  subst r
  exact ⟨d', rfl, k σ G H1 (NxS.refl i rl) rfl⟩
/-! ### arguments, displays -/
variable {es : List Expr} {ms : M (List D)}
def mNil : M (List D) := mPure []
def mCons (a : M D) (r : M (List D)) : M (List D) := mBind a fun x => mBind r fun xs => mPure (x :: xs)
theorem da_nil : DA X [] mNil := by
  refine ⟨PA.imp pa_nil fun σ H Q q => ?_, pat_pure, fun _ _ _ h => by cases h; rfl⟩
  obtain ⟨G, _, _, f⟩ := W.pure q
  exact f rfl _ .nil
theorem da_cons (h : DE X a m) (hr : DA X es ms) (hs : starEach (a :: es) X.env = (false, eval a X.env) :: starEach es X.env := by rfl) : DA X (a :: es) (mCons m ms) := by
  refine ⟨PA.imp (pa_cons h.pe hr.pa hs) fun σ H Q q => ?_, pat_bind h.pat fun x => pat_bind hr.pat fun _ => pat_pure, fun S d S' h => ?_⟩
  rotate_left
  · obtain ⟨x, S1, _, e2⟩ := mBind_some h
    obtain ⟨xs, S2, e3, e4⟩ := mBind_some e2
    cases e4
    show xs.length + 1 = es.length + 1
    rw [hr.len _ _ _ e3]
  refine (W.bind q).mono fun v H1 ⟨d, w1⟩ => (W.bindA w1).mono fun vs H2 ⟨ds, hl, w2⟩ => ?_
  obtain ⟨G, _, c, f⟩ := W.pure w2
  exact f rfl _ (.cons (c (d, v) (by simp)) (.of_zip hl fun x hx => c x (by simp [hx])))
def small (n : Nat) : Bool := decide (n ≤ sizeLine)
def mTup (ms : M (List D)) : M D := mBind ms fun ds => if small ds.length then mPure (.tup ds) else mNone
def mLst (ms : M (List D)) : M D := mBind ms fun ds => if small ds.length then mPure (.lst ds) else mNone
theorem de_tup {x1} (h : DA X es ms) : DE X (.Tuple es x1 pos) (mTup ms) := by
  refine ⟨PE.imp (pe_tup h.pa) fun σ H Q q => ?_, pat_bind h.pat fun x => pat_ite pat_pure pat_none⟩
  refine (W.bindA q).mono fun vs H1 ⟨ds, hl, w1⟩ => ?_
  cases e : small ds.length with
  | false =>
    rw [e] at w1
    exact (W.noneE w1).elim
  | true =>
    rw [e] at w1
    refine ⟨by rw [← hl]; exact of_decide_eq_true e, fun p hp => ?_⟩
    obtain ⟨B, G, S, r, S', i, rl, c, ev, k⟩ := w1
    cases ev
    have gr := Gr.alloc (o := .tup vs) i hp
    refine k σ _ _ (gr.nx rl) rfl _ ?_
    rw [DR]
    exact ⟨p, vs, rfl, .of upd_same, (DRs.of_zip hl fun x hx => c x (by simp [hx])).mono gr.sub⟩
theorem de_lst (h : DA X es ms) : DE X (.List es pos) (mLst ms) := by
  refine ⟨PE.imp (pe_lst h.pa) fun σ H Q q => ?_, pat_bind h.pat fun x => pat_ite pat_pure pat_none⟩
  refine (W.bindA q).mono fun vs H1 ⟨ds, hl, w1⟩ => ?_
  cases e : small ds.length with
  | false =>
    rw [e] at w1
    exact (W.noneE w1).elim
  | true =>
    rw [e] at w1
    refine ⟨by rw [← hl]; exact of_decide_eq_true e, fun p hp => ?_⟩
    obtain ⟨B, G, S, r, S', i, rl, c, ev, k⟩ := w1
    cases ev
    have gr := Gr.alloc (o := .lst vs) i hp
    refine k σ _ _ (gr.nx rl) rfl _ ?_
    rw [DR]
    exact ⟨p, vs, rfl, upd_same, (DRs.of_zip hl fun x hx => c x (by simp [hx])).mono gr.sub⟩
/-! ### calls of built-ins -/
def CallD (K : PySem.W.Frag) (mg : Str → Option Value) (r : List V → Hp → VK → Prop) (g : List D → Option D) : Prop := ∀ (G H : Hp) (vs : List V) (ds : List D) (d : D) (Q : VK), In G H → DRs K mg G ds vs → g ds = some d →
  (∀ v G' H', Gr G H G' H' → DR K mg G' d v → Q v H') → r vs H Q
def mCall (g : List D → Option D) (ms : M (List D)) : M D := mBind ms fun ds => mOpt (g ds)
variable {x : Str} {p : Pos} {id T : String} {rc : List V → Hp → VK → Prop} {gc : List D → Option D}
theorem tCB_of (hd : CallD X.K X.mg rc gc) {σ : L2.St} {H : Hp} {Q : VK} (h : tM X.K X.mg (mCall gc ms) σ H Q) : tCB rc (tMA X.K X.mg ms) σ H Q := by
  refine (W.bindA h).mono fun vs H1 ⟨ds, hl, w1⟩ => ?_
  obtain ⟨B, G, S, d', S', i, rl, c, ev, k⟩ := w1
  obtain ⟨e1, e2⟩ := mOpt_some ev
  subst e2
  exact hd G H1 vs ds d' Q i (.of_zip hl fun x hx => c x (by simp [hx])) e1 fun w G' H' gr q => k σ G' H' (gr.nx rl) rfl w q
theorem de_callB (hc : CallR X (.builtin id) rc) (hd : CallD X.K X.mg rc gc) (hg : Gl X x) (hm : X.mg x = none) (hv : bootBuiltins x = some (.builtin id)) (ha : DA X (a :: es) ms) (hn : x ≠ "__name__" := by decide) (hdb : (x == ("__debug__" : Str)) = false := by decide)
    (he : starEach (a :: es) X.env = (false, eval a X.env) :: starEach es X.env := by rfl) (hpl : (backTo pos (starEach es X.env)).any (·.1) = false := by rfl) : DE X (.Call (.Name x p) (a :: es) [] pos) (mCall gc ms) :=
  ⟨PE.imp (pe_callB hc hg hm hv ha.pa hn hdb he hpl) fun σ H Q q => tCB_of hd q, pat_bind ha.pat fun _ => pat_opt⟩
theorem de_callTy (hc : CallR X (.type T) rc) (hd : CallD X.K X.mg rc gc) (hg : Gl X x) (hm : X.mg x = none) (hv : bootBuiltins x = some (.type T)) (ha : DA X (a :: es) ms) (hn : x ≠ "__name__" := by decide) (hdb : (x == ("__debug__" : Str)) = false := by decide)
    (he : starEach (a :: es) X.env = (false, eval a X.env) :: starEach es X.env := by rfl) (hpl : (backTo pos (starEach es X.env)).any (·.1) = false := by rfl) : DE X (.Call (.Name x p) (a :: es) [] pos) (mCall gc ms) :=
  ⟨PE.imp (pe_callTy hc hg hm hv ha.pa hn hdb he hpl) fun σ H Q q => tCB_of hd q, pat_bind ha.pat fun _ => pat_opt⟩
/-! ### calls of the text's defs -/
theorem tMA_len {es : List Expr} {ms : M (List D)} (ha : DA X es ms) {σ : L2.St} {H : Hp} {Q : List V → Hp → Prop} (h : tMA X.K X.mg ms σ H Q) : tMA X.K X.mg ms σ H fun vs H1 => vs.length = es.length ∧ Q vs H1 := by
  obtain ⟨B, G, S, r, S', i, rl, c, ev, k⟩ := h
  exact ⟨B, G, S, r, S', i, rl, c, ev, fun σ' G' H' n e vs q => ⟨by rw [q.length, ha.len _ _ _ ev], k σ' G' H' n e vs q⟩⟩
/-- a def that changes nothing: n parameters, its function f -/
def spP (K : PySem.W.Frag) (mg : Str → Option Value) (n : Nat) (f : List D → Option D) : Sp := fun vs H Q _ => ∃ G ds d, In G H ∧ DRs K mg G ds vs ∧ ds.length = n ∧ f ds = some d ∧ ∀ v G' H', Gr G H G' H' → DR K mg G' d v → Q v H'
theorem de_call {CX : CXT} {k n : Nat} {f : Addr} {fd : FuncData} {ps : List Str} {E : XK} {fn : List D → Option D} (F : FnOk X.prog X.w X.K X.mg X.base CX k f fd ps (spP X.K X.mg n fn)) (hr : Room k X.A) (hg : Gl X x) (hm : X.mg x = some (.ref f)) (hk : PySem.W.keepIn X.K (.ref f) = true)
    (hb : Binds X.K fd ps []) (hx : Passes CX X E) (ha : DA X (a :: es) ms) (hn : (a :: es).length = n := by rfl)
    (hdb : (x == ("__debug__" : Str)) = false := by decide) (he : starEach (a :: es) X.env = (false, eval a X.env) :: starEach es X.env := by rfl) (hpl : (backTo pos (starEach es X.env)).any (·.1) = false := by rfl) :
    DE X (.Call (.Name x p) (a :: es) [] pos) (mCall fn ms) := by
  refine ⟨PE.imp (pe_call F hr hg hm hk hb .nil hx ha.pa hdb he hpl) fun σ H Q q => ?_, pat_bind ha.pat fun _ => pat_opt⟩
  refine (tMA_len ha (W.bindA q)).mono fun vs H1 ⟨hv, ds, hl, w1⟩ => ?_
  obtain ⟨B, G, S, d', S', i, rl, c, ev, k⟩ := w1
  obtain ⟨e1, e2⟩ := mOpt_some ev
  subst e2
  rw [List.append_nil]
  exact ⟨G, ds, d', i, .of_zip hl fun x hx => c x (by simp [hx]), by rw [hl, hv, hn], e1, fun w G' H' gr q => k σ G' H' (gr.nx rl) rfl w q⟩
end
end SK
namespace SK
open PySem L2
section
variable {K : PySem.W.Frag} {mg : Str → Option Value} {B : List (Nat × Addr)} {σ σ1 σ2 : L2.St} {G G' G1 G2 H H' H1 H2 : Hp} {S S' S1 S2 : SS}
variable {α β : Type} {F : α → L2.St → Hp → Hp → Prop} {cs : List (D × V)}
theorem no_cs : ∀ c ∈ ([] : List (D × V)), DR K mg G c.1 c.2 := fun _ z => by cases z
theorem W.seq {m : M β} {f : β → M α} (h : W K mg cs (mBind m f) σ H F) : W K mg cs m σ H fun b σ' G' H' => W K mg [] (f b) σ' H' F := by
  obtain ⟨B, G, S, r, S', a, b, c, e, k⟩ := h
  obtain ⟨d, S1, e1, e2⟩ := mBind_some e
  exact ⟨B, G, S, d, S1, a, b, c, e1, fun σ1 G1 H1 n => ⟨B, G1, S1, r, S', n.inn, n.rel, no_cs, e2, fun σ2 G2 H2 n2 => k σ2 G2 H2 (n.trans n2)⟩⟩
/-- a slot may be stored to -/
def free1 (S : SS) (i : Nat) : Bool := match S[i]? with
  | some (some (.bw _)) => false
  | some _ => true
  | none => false
theorem free1_lt (h : free1 S i = true) : i < S.length := by
  unfold free1 at h
  split at h
  · cases h
  · rename_i e; exact (List.getElem?_eq_some_iff.mp e).1
  · cases h
def mSet (i : Nat) (d : D) : M Unit := fun s => if free1 s i then some ((), s.set i (some (.sh d))) else none
theorem nx_set {i : Nat} {d : D} {v : V} (a : In G H) (r : RelS K mg B G H σ S) (q : DR K mg G d v) (f : free1 S i = true) : NxS K mg B σ G H S (σ.set i (some v)) G H (S.set i (some (.sh d))) := by
  have hl := free1_lt f
  have hl2 : i < σ.length := by rw [← r.len]; exact hl
  have hs : ∀ {j : Nat} {e : D}, Hs (S.set i (some (.sh d))) j e → j ≠ i ∧ Hs S j e := fun {j e} z => by
    by_cases hj : j = i
    · subst hj
      rcases z with z | z
      · rw [List.getElem?_set_self hl] at z; cases z
      · rw [List.getElem?_set_self hl] at z; cases z
    · refine ⟨hj, ?_⟩
      rcases z with z | z
      · rw [List.getElem?_set_ne (Ne.symm hj)] at z; exact .inl z
      · rw [List.getElem?_set_ne (Ne.symm hj)] at z; exact .inr z
  refine ⟨Sub.refl G, fun _ _ e => .inl e, a, fun _ _ e _ => e, fun _ o e => ⟨o, e⟩, fun x z => ?_, ⟨by rw [List.length_set, List.length_set, r.len], fun j e z => ?_, fun j e z => ?_, fun j k e e' p z1 z2 y1 y2 => ?_, fun j p hb => ?_⟩⟩
  · obtain ⟨j, e, z1, z2⟩ := z
    obtain ⟨hj, z3⟩ := hs z1
    rw [List.getElem?_set_ne (Ne.symm hj)] at z2
    exact .inl ⟨j, e, z3, z2⟩
  · by_cases hj : j = i
    · subst hj
      rw [List.getElem?_set_self hl] at z
      cases z
      exact ⟨v, by rw [List.getElem?_set_self hl2], q⟩
    · rw [List.getElem?_set_ne (Ne.symm hj)] at z ⊢
      exact r.sh j e z
  · obtain ⟨hj, z3⟩ := hs z
    rw [List.getElem?_set_ne (Ne.symm hj)]
    exact r.ow j e z3
  · obtain ⟨hj, z3⟩ := hs z1
    obtain ⟨hk, z4⟩ := hs z2
    rw [List.getElem?_set_ne (Ne.symm hj)] at y1
    rw [List.getElem?_set_ne (Ne.symm hk)] at y2
    exact r.dis j k e e' p z3 z4 y1 y2
  · obtain ⟨⟨e, z1⟩, z2⟩ := r.bw j p hb
    have hj : j ≠ i := by
      rintro rfl
      unfold free1 at f
      rw [z1] at f
      cases f
    rw [List.getElem?_set_ne (Ne.symm hj), List.getElem?_set_ne (Ne.symm hj)]
    exact ⟨⟨e, z1⟩, z2⟩
end
section
variable {X : Cx} {e : Expr} {m : M D} {pos : Pos} {st : Stmt} {sts : List Stmt} {ms mt mu : M Out} {mb : M Bool}
/-! ### targets -/
theorem dg_name {i : Nat} {x : Str} (hN : X.N.Nodup) (hi : X.N[i]? = some x) (hx : Loc X.env.scope x) (hf : X.fn x = true ∨ X.env.scope.names.lookup x = some .local := by first | exact .inl rfl | exact .inr rfl | assumption) : DG X (.Name x pos) (mSet i) := by
  refine ⟨PG.imp (pg_name hN hi hx hf) fun v σ H Q q => ?_⟩
  obtain ⟨d, B, G, S, r, S', a, b, c, ev, k⟩ := q
  unfold mSet at ev
  split at ev
  · cases ev
    exact k _ _ _ (nx_set a b (c (d, v) (by simp)) (by assumption))
  · cases ev
/-! ### statements -/
def mAsg (m : M D) (t : D → M Unit) : M Out := mBind m fun d => mBind (t d) fun _ => mPure .nx
theorem W.nx {K : PySem.W.Frag} {mg : Str → Option Value} {D0 : Ends} {σ : L2.St} {H : Hp} (h : W K mg [] (mPure .nx) σ H (Reach K mg D0)) : D0.nx σ H := by
  obtain ⟨G, _, _, f⟩ := W.pure h
  exact f
theorem ds_asg {tg : Expr} {t : D → M Unit} (he : DE X e m) (hg : DG X tg t) (hs : swapsWithSole [tg] e pos.line X.env = pure false := by rfl) (hw : swappedStores [tg] e X.env = pure none := by rfl)
    (h1 : (assignEach [tg] X.env).map (·.2) = [assign tg X.env] := by rfl) : DS X (.Assign [tg] e pos) (mAsg m t) := by
  refine ⟨PS.imp (ps_asg he.pe hg.pg hs hw h1) fun D0 σ H q => ?_⟩
  refine (W.bind q).mono fun v H1 ⟨d, w1⟩ => ⟨d, (W.seq w1).imp fun _ σ' G' H' w => w.nx⟩
theorem ds_set {i : Nat} {x : Str} {pos' : Pos} (hN : X.N.Nodup) (hi : X.N[i]? = some x) (hx : Loc X.env.scope x) (he : DE X e m) (hs : swapsWith e (some (.Name x pos')) pos.line X.env = pure false := by rfl) (hf : X.fn x = true ∨ X.env.scope.names.lookup x = some .local := by first | exact .inl rfl | exact .inr rfl | assumption) :
    DS X (.Assign [.Name x pos'] e pos) (mAsg m (mSet i)) := by
  refine ⟨PS.imp (ps_set hN hi hx he.pe hs hf) fun D0 σ H q => ?_⟩
  refine (W.bind q).mono fun v H1 ⟨d, w1⟩ => ?_
  obtain ⟨B, G, S, r, S', a, b, c, ev, k⟩ := W.seq w1
  unfold mSet at ev
  split at ev
  · cases ev
    exact (k _ _ _ (nx_set a b (c (d, v) (by simp)) (by assumption))).nx
  · cases ev
def mRet (m : M D) : M Out := mBind m fun d => mPure (.rt d)
theorem ds_ret (he : DE X e m) : DS X (.Return (some e) pos) (mRet m) := by
  refine ⟨PS.imp (ps_ret he.pe) fun D0 σ H q => ?_⟩
  refine (W.bind q).mono fun v H1 ⟨d, w1⟩ => ?_
  obtain ⟨G, _, c, f⟩ := W.pure w1
  exact f v (c (d, v) (by simp))
def mDrop (m : M D) : M Out := mBind m fun _ => mPure .nx
theorem ds_expr (he : DE X e m) (hs : swapsWith e none pos.line X.env = pure false := by rfl) : DS X (.Expr e pos) (mDrop m) := by
  refine ⟨PS.imp (ps_expr he.pe hs) fun D0 σ H q => ?_⟩
  refine (W.bind q).mono fun v H1 ⟨d, w1⟩ => ?_
  obtain ⟨G, _, c, f⟩ := W.pure w1
  exact f
theorem ds_pass : DS X (.Pass pos) (mPure .nx) := ⟨PS.imp ps_pass fun D0 σ H q => W.nx q⟩
theorem ds_if {c : Expr} {a b : List Stmt} (hc : DT X c mb) (ha : DSs X a mt) (hb : DSs X b mu) : DS X (.If c a b pos) (mIf mb mt mu) := by
  refine ⟨PS.imp (ps_if hc.pt ha.ps hb.ps) fun D0 σ H q => ?_⟩
  refine (W.bindT q).mono fun v H1 w1 => ?_
  cases v with
  | true => exact w1
  | false => exact w1
theorem dss_nil : DSs X [] (mPure .nx) := ⟨PSs.imp pss_nil fun D0 σ H q => W.nx q⟩
def mSeq (a b : M Out) : M Out := mBind a fun r => match r with
  | .nx => b
  | o => mPure o
theorem dss_cons (h1 : DS X st mt) (h2 : DSs X sts mu) : DSs X (st :: sts) (mSeq mt mu) := by
  refine ⟨PSs.imp (pss_cons h1.ps h2.ps) fun D0 σ H q => ?_⟩
  obtain ⟨B, G, S, r, S', a, b, c, e, k⟩ := q
  obtain ⟨d, S1, e1, e2⟩ := mBind_some e
  refine ⟨B, G, S, d, S1, a, b, c, e1, fun σ1 G1 H1 n => ?_⟩
  cases d with
  | nx => exact ⟨B, G1, S1, r, S', n.inn, n.rel, no_cs, e2, fun σ2 G2 H2 n2 => k σ2 G2 H2 (n.trans n2)⟩
  | bk => cases e2; exact k σ1 G1 H1 n
  | ct => cases e2; exact k σ1 G1 H1 n
  | rt d => cases e2; exact k σ1 G1 H1 n
theorem dss_one (h1 : DS X st mt) : DSs X [st] mt := ⟨pss_one h1.ps⟩
/-! ### for -/
def mLoop (t : D → M Unit) (b : M Out) : List D → M Out
  | [] => mPure .nx
  | d :: ds => mBind (t d) fun _ => mBind b fun r => match r with
    | .nx => mLoop t b ds
    | .ct => mLoop t b ds
    | .bk => mPure .nx
    | .rt v => mPure (.rt v)
def mFor (mi : M (List D)) (t : D → M Unit) (b : M Out) : M Out := mBind mi fun ds => mLoop t b ds
theorem ds_for {tg iter : Expr} {body : List Stmt} {mi : M (List D)} {t : D → M Unit} (hp : PassesOwn (model X.prog X.w) X.A X.env X.xe) (hc : X.calm = true) (hi : DI X tg iter mi) (hg : DG X tg t) (hb : DSs X body mt)
    (hs : ∀ x, foldedSetIterable iter X.env x = pure x := by intro _; rfl) : DS X (.For tg iter body [] pos) (mFor mi t mt) := by
  refine ⟨PS.imp (ps_for hp hc hi.pi hg.pg hb.ps hs) fun D0 σ H q => ?_⟩
  obtain ⟨B, G, S, r, S', a, b, c, e, k⟩ := q
  obtain ⟨ds, S1, e1, e2⟩ := mBind_some e
  refine ⟨B, G, S, ds, S1, a, b, c, e1, fun σ1 G1 H1 n es J ok => ?_⟩
  subst es
  refine ⟨fun i q σ2 H2 => q = ds.length - i ∧ i ≤ ds.length ∧ ∃ G2 S2, Sub G1 G2 ∧ In G2 H2 ∧ RelS X.K X.mg B G2 H2 σ2 S2 ∧ mLoop t mt (ds.drop i) S2 = some (r, S') ∧ NxS X.K X.mg B σ1 G H S σ2 G2 H2 S2,
    ⟨ds.length, by omega, by omega, G1, S1, Sub.refl _, n.inn, n.rel, e2, n⟩, ?_⟩
  rintro i q σ2 H2 ⟨rfl, hi2, G2, S2, sb, i2, r2, ev, n2⟩
  obtain ⟨go, stop⟩ := ok B σ2 G2 H2 S2 sb i2 r2 i
  by_cases hlt : i < ds.length
  · have ed : ds[i]? = some ds[i] := List.getElem?_eq_getElem hlt
    obtain ⟨g1, yl⟩ := go _ ed
    rw [List.drop_eq_getElem_cons hlt] at ev
    obtain ⟨_, S3, f1, f2⟩ := mBind_some ev
    obtain ⟨rb, S4, f3, f4⟩ := mBind_some f2
    refine .inr ⟨g1, fun σ5 H5 => i + 1 ≤ ds.length ∧ ∃ G5 S5, Sub G1 G5 ∧ In G5 H5 ∧ RelS X.K X.mg B G5 H5 σ5 S5 ∧ mLoop t mt (ds.drop (i + 1)) S5 = some (r, S') ∧ NxS X.K X.mg B σ1 G H S σ5 G5 H5 S5, fun σ5 H5 z => ⟨ds.length - (i + 1), by omega, rfl, z⟩, fun x H3 y => ?_⟩
    obtain ⟨G3, n3, q3⟩ := yl x H3 y
    refine ⟨ds[i], B, G3, S2, (), S3, n3.inn, n3.rel, fun c hc => ?_, f1, fun σ4 G4 H4 n4 => ?_⟩
    · rw [List.mem_singleton] at hc
      subst hc
      exact q3
    · refine ⟨B, G4, S3, rb, S4, n4.inn, n4.rel, no_cs, f3, fun σ5 G5 H5 n5 => ?_⟩
      have nn := ((n2.trans n3).trans n4).trans n5
      cases rb with
      | nx => exact ⟨hlt, G5, S4, ((sb.trans n3.sub).trans n4.sub).trans n5.sub, n5.inn, n5.rel, f4, nn⟩
      | ct => exact ⟨hlt, G5, S4, ((sb.trans n3.sub).trans n4.sub).trans n5.sub, n5.inn, n5.rel, f4, nn⟩
      | bk => cases f4; exact k _ _ _ nn
      | rt v => cases f4; exact k _ _ _ nn
  · have e : i = ds.length := by omega
    subst e
    rw [List.drop_length] at ev
    cases ev
    exact .inl ⟨stop (Nat.le_refl _), k _ _ _ n2⟩
end
end SK
namespace SK
open PySem L2
/-! ### what is walked -/
section
variable {X : Cx} {tg iter e : Expr} {m : M D}
def signs (s : Str) : List D := s.cps.toList.map fun c => .str ⟨#[c]⟩
def gIter : D → Option (List D)
  | .lst ds => some ds
  | .tup ds => some ds
  | .str s => some (signs s)
  | _ => none
def mIter (m : M D) : M (List D) := mBind m fun d => mOpt (gIter d)
theorem it_list {K : PySem.W.Frag} {mg : Str → Option Value} {G : Hp} {a : Addr} {xs : List V} {ds : List D} (e : G a = some (.lst xs)) (r : DRs K mg G ds xs) : ItOk K mg G (Itl K a) ds := by
  intro B σ G1 H S sb i rl k
  have ea := i.lst (sb _ _ e)
  refine ⟨fun d hd => ?_, fun hl => ⟨xs, .of ea, by rw [r.length]; exact hl⟩⟩
  obtain ⟨v, hv, q⟩ := r.get hd
  refine ⟨⟨xs, v, .of ea, hv⟩, fun x H' y => ?_⟩
  obtain ⟨e1, y⟩ := y
  subst e1
  have e2 := y xs (.of ea)
  rw [hv] at e2
  cases e2
  exact ⟨G1, NxS.refl i rl, q.mono sb⟩
theorem it_tup {K : PySem.W.Frag} {mg : Str → Option Value} {G : Hp} {a : Addr} {xs : List V} {ds : List D} (e : SqT K G a xs) (r : DRs K mg G ds xs) : ItOk K mg G (Itt K a) ds := by
  intro B σ G1 H S sb i rl k
  have ea := i.tup (sb.tup e)
  refine ⟨fun d hd => ?_, fun hl => ⟨xs, ea, by rw [r.length]; exact hl⟩⟩
  obtain ⟨v, hv, q⟩ := r.get hd
  refine ⟨⟨xs, v, ea, hv⟩, fun x H' y => ?_⟩
  obtain ⟨e1, y⟩ := y
  subst e1
  have e2 := y xs ea
  rw [hv] at e2
  cases e2
  exact ⟨G1, NxS.refl i rl, q.mono sb⟩
theorem it_str {K : PySem.W.Frag} {mg : Str → Option Value} {G : Hp} (x : Str) : ItOk K mg G (Its x) (signs x) := by
  intro B σ G1 H S sb i rl k
  refine ⟨fun d hd => ?_, fun hl => ?_⟩
  · unfold signs at hd
    rw [List.getElem?_map, Array.getElem?_toList] at hd
    cases q : x.cps[k]? with
    | none => rw [q] at hd; cases hd
    | some c =>
      rw [q] at hd
      cases hd
      refine ⟨(Array.getElem?_eq_some_iff.mp q).1, fun v H' y => ?_⟩
      obtain ⟨e1, c', e2, e3⟩ := y
      subst e1 e3
      rw [q] at e2
      cases e2
      exact ⟨G1, NxS.refl i rl, by rw [DR]⟩
  · unfold signs at hl
    rw [List.length_map, Array.length_toList] at hl
    exact hl
theorem di_any (h : DE X e m) : DI X tg e (mIter m) := by
  have hp : PI X tg e (fun σ H R => iList X.K (tM X.K X.mg m) σ H R ∨ iTup X.K (tM X.K X.mg m) σ H R ∨ iStr (tM X.K X.mg m) σ H R) := ⟨fun pins s σ H R I q => by
    rcases q with q | q | q
    · exact (pi_list h.pe).run pins s σ H R I q
    · exact (pi_tup h.pe).run pins s σ H R I q
    · exact (pi_str h.pe).run pins s σ H R I q⟩
  refine ⟨PI.imp hp fun σ H R q => ?_, pat_bind h.pat fun _ => pat_opt⟩
  obtain ⟨B, G, S, ds, S', i, rl, c, ev, k⟩ := q
  obtain ⟨d, S1, e1, e2⟩ := mBind_some ev
  obtain ⟨e3, e4⟩ := mOpt_some e2
  subst e4
  cases d with
  | lst es =>
    cases e3
    refine .inl ⟨B, G, S, _, S', i, rl, no_cs, e1, fun σ' G' H' n es v q => ?_⟩
    rw [DR] at q
    obtain ⟨a, xs, rfl, ea, r⟩ := q
    exact ⟨a, rfl, ⟨xs, .of (n.inn.lst ea)⟩, k σ' G' H' n es _ (it_list ea r)⟩
  | tup es =>
    cases e3
    refine .inr (.inl ⟨B, G, S, _, S', i, rl, no_cs, e1, fun σ' G' H' n es v q => ?_⟩)
    rw [DR] at q
    obtain ⟨a, xs, rfl, ea, r⟩ := q
    exact ⟨a, rfl, ⟨xs, n.inn.tup ea⟩, k σ' G' H' n es _ (it_tup ea r)⟩
  | str x =>
    cases e3
    refine .inr (.inr ⟨B, G, S, _, S', i, rl, no_cs, e1, fun σ' G' H' n es v q => ?_⟩)
    rw [DR] at q
    exact ⟨x, q, k σ' G' H' n es _ (it_str x)⟩
  | _ => cases e3
/-! range -/
def rngD (lo : Int) (n : Nat) : List D := (List.range n).map fun i => .int (lo + (i : Nat))
def gRange1 : List D → Option (List D)
  | [.int j] => if -(2 ^ 62) ≤ j ∧ j < 2 ^ 62 then some (rngD 0 j.toNat) else none
  | _ => none
def mRange1 (ms : M (List D)) : M (List D) := mBind ms fun ds => mOpt (gRange1 ds)
theorem it_rng {K : PySem.W.Frag} {mg : Str → Option Value} {G : Hp} (lo : Int) (n : Nat) : ItOk K mg G (Itr lo n) (rngD lo n) := by
  intro B σ G1 H S sb i rl k
  refine ⟨fun d hd => ?_, fun hl => ?_⟩
  · unfold rngD at hd
    rw [List.getElem?_map] at hd
    cases q : (List.range n)[k]? with
    | none => rw [q] at hd; cases hd
    | some j =>
      rw [q] at hd
      cases hd
      rw [List.getElem?_eq_some_iff] at q
      obtain ⟨h1, h2⟩ := q
      rw [List.getElem_range] at h2
      subst h2
      rw [List.length_range] at h1
      refine ⟨h1, fun v H' y => ?_⟩
      obtain ⟨e1, e2⟩ := y
      subst e1 e2
      exact ⟨G1, NxS.refl i rl, by rw [DR]⟩
  · unfold rngD at hl
    rw [List.length_map, List.length_range] at hl
    exact hl
theorem di_range1 {a : Expr} {ms : M (List D)} {p pos : Pos} (hg : Gl X "range") (hm : X.mg "range" = none) (ha : DA X [a] ms) (hs : starEach [a] X.env = [(false, eval a X.env)] := by rfl) : DI X tg (.Call (.Name "range" p) [a] [] pos) (mRange1 ms) := by
  refine ⟨PI.imp (pi_range1 hg hm ha.pa hs) fun σ H R q => ?_, pat_bind ha.pat fun _ => pat_opt⟩
  obtain ⟨B, G, S, ds, S', i, rl, c, ev, k⟩ := q
  obtain ⟨es, S1, e1, e2⟩ := mBind_some ev
  obtain ⟨e3, e4⟩ := mOpt_some e2
  subst e4
  refine ⟨B, G, S, _, S', i, rl, no_cs, e1, fun σ' G' H' n eq vs q => ?_⟩
  unfold gRange1 at e3
  split at e3
  · split at e3
    · rename_i j hj
      cases e3
      rw [DRs] at q
      obtain ⟨v, ws, rfl, q1, q2⟩ := q
      rw [DR] at q1
      rw [DRs] at q2
      subst q1 q2
      exact ⟨j, rfl, hj.1, hj.2, k σ' G' H' n eq _ (it_rng 0 j.toNat)⟩
    · cases e3
  · cases e3
end
/-! ### list comprehensions: one name -/
section
variable {K : PySem.W.Frag} {mg : Str → Option Value} {B : List (Nat × Addr)} {σ : L2.St} {G G' H H' : Hp} {S S' : SS} {i : Nat}
/-- slot i holds nothing of our own -/
def plain1 (S : SS) (i : Nat) : Bool := match S[i]? with
  | some (some (.sh _)) => true
  | some none => true
  | _ => false
theorem plain1_lt (h : plain1 S i = true) : i < S.length := by
  unfold plain1 at h
  split at h
  · rename_i e; exact (List.getElem?_eq_some_iff.mp e).1
  · rename_i e; exact (List.getElem?_eq_some_iff.mp e).1
  · cases h
theorem plain1_hs (h : plain1 S i = true) {d : D} : ¬ Hs S i d := by
  rintro (z | z) <;> (unfold plain1 at h; rw [z] at h; cases h)
theorem hs_clr {x : Option SV} (hx : ∀ d, x ≠ some (.ow d) ∧ x ≠ some (.bw d)) {j : Nat} {d : D} (h : Hs (S.set i x) j d) : Hs S j d ∧ (j ≠ i ∨ S.length ≤ i) := by
  by_cases hj : j = i
  · subst hj
    by_cases hl : j < S.length
    · rcases h with z | z
      · rw [List.getElem?_set_self hl] at z
        exact absurd (Option.some.inj z) (hx d).1
      · rw [List.getElem?_set_self hl] at z
        exact absurd (Option.some.inj z) (hx d).2
    · refine ⟨?_, .inr (by omega)⟩
      rcases h with z | z
      · rw [List.getElem?_eq_none (by rw [List.length_set]; omega)] at z; cases z
      · rw [List.getElem?_eq_none (by rw [List.length_set]; omega)] at z; cases z
  · refine ⟨?_, .inl hj⟩
    rcases h with z | z
    · rw [List.getElem?_set_ne (Ne.symm hj)] at z; exact .inl z
    · rw [List.getElem?_set_ne (Ne.symm hj)] at z; exact .inr z
/-- the slot i, of nothing of our own, gets y in place of x; its value v (if any) is so -/
theorem rel_put {x : Option SV} {v : Option V} (r : RelS K mg B G H σ S) (h : plain1 S i = true) (hx : ∀ d, x ≠ some (.ow d) ∧ x ≠ some (.bw d)) (hv : ∀ d, x = some (.sh d) → ∃ u, v = some u ∧ DR K mg G d u) :
    RelS K mg B G H (σ.set i v) (S.set i x) := by
  have hl := plain1_lt h
  have hl2 : i < σ.length := by rw [← r.len]; exact hl
  have ne : ∀ {j : Nat} {d : D}, Hs (S.set i x) j d → Hs S j d ∧ j ≠ i := fun {j d} z => by
    obtain ⟨a, b⟩ := hs_clr hx z
    rcases b with b | b
    · exact ⟨a, b⟩
    · omega
  refine ⟨by rw [List.length_set, List.length_set, r.len], fun j d z => ?_, fun j d z => ?_, fun j k d e p z1 z2 y1 y2 => ?_, fun j p hb => ?_⟩
  · by_cases hj : j = i
    · subst hj
      rw [List.getElem?_set_self hl] at z
      obtain ⟨u, e, q⟩ := hv d (Option.some.inj z)
      exact ⟨u, by rw [List.getElem?_set_self hl2, e], q⟩
    · rw [List.getElem?_set_ne (Ne.symm hj)] at z ⊢
      exact r.sh j d z
  · obtain ⟨z1, hj⟩ := ne z
    rw [List.getElem?_set_ne (Ne.symm hj)]
    exact r.ow j d z1
  · obtain ⟨a1, hj⟩ := ne z1
    obtain ⟨a2, hk⟩ := ne z2
    rw [List.getElem?_set_ne (Ne.symm hj)] at y1
    rw [List.getElem?_set_ne (Ne.symm hk)] at y2
    exact r.dis j k d e p a1 a2 y1 y2
  · obtain ⟨⟨d, z1⟩, z2⟩ := r.bw j p hb
    have hj : j ≠ i := by
      rintro rfl
      exact plain1_hs h (.inr z1)
    rw [List.getElem?_set_ne (Ne.symm hj), List.getElem?_set_ne (Ne.symm hj)]
    exact ⟨⟨d, z1⟩, z2⟩
theorem oa_put {x : Option SV} {v : Option V} (h : plain1 S i = true) (hx : ∀ d, x ≠ some (.ow d) ∧ x ≠ some (.bw d)) {a : Addr} : OA (σ.set i v) (S.set i x) a ↔ OA σ S a := by
  have hl := plain1_lt h
  constructor
  · rintro ⟨j, d, z, e⟩
    obtain ⟨z1, hj⟩ := hs_clr hx z
    have hj : j ≠ i := by
      rcases hj with q | q
      · exact q
      · omega
    rw [List.getElem?_set_ne (Ne.symm hj)] at e
    exact ⟨j, d, z1, e⟩
  · rintro ⟨j, d, z, e⟩
    have hj : j ≠ i := by
      rintro rfl
      exact plain1_hs h z
    refine ⟨j, d, ?_, by rw [List.getElem?_set_ne (Ne.symm hj)]; exact e⟩
    rcases z with z | z
    · exact .inl (by rw [List.getElem?_set_ne (Ne.symm hj)]; exact z)
    · exact .inr (by rw [List.getElem?_set_ne (Ne.symm hj)]; exact z)
theorem Pat.plain (p : Pat S S') : plain1 S' i = plain1 S i := by
  have e := p.at i
  unfold plain1
  cases a : S'[i]? with
  | none =>
    cases b : S[i]? with
    | none => rfl
    | some y => rw [a, b] at e; cases e
  | some x =>
    cases b : S[i]? with
    | none => rw [a, b] at e; cases e
    | some y =>
      rw [a, b] at e
      have e : skel x = skel y := Option.some.inj e
      rcases x with _ | x | x | x <;> rcases y with _ | y | y | y <;> first | rfl | cases e
theorem plain1_set {x : Option SV} (hl : i < S.length) (hx : ∀ d, x ≠ some (.ow d) ∧ x ≠ some (.bw d)) : plain1 (S.set i x) i = true := by
  unfold plain1
  rw [List.getElem?_set_self hl]
  rcases x with _ | x | x | x
  · rfl
  · rfl
  · exact absurd rfl (hx x).1
  · exact absurd rfl (hx x).2
theorem sh_ok (d : D) : ∀ e, some (SV.sh d) ≠ some (SV.ow e) ∧ some (SV.sh d) ≠ some (SV.bw e) := fun e => by simp
theorem none_ok : ∀ e, (none : Option SV) ≠ some (SV.ow e) ∧ (none : Option SV) ≠ some (SV.bw e) := fun e => by simp
end
def mLcGo (i : Nat) (t : M Bool) (e : M D) : List D → M (List D)
  | [] => mPure []
  | d :: ds => fun S => match t (S.set i (some (.sh d))) with
    | none => none
    | some (false, S1) => mLcGo i t e ds (S1.set i none)
    | some (true, S1) => match e S1 with
      | none => none
      | some (y, S2) => match mLcGo i t e ds (S2.set i none) with
        | none => none
        | some (ys, S3) => some (y :: ys, S3)
def mLc (i : Nat) (mi : M (List D)) (t : M Bool) (e : M D) : M D := mBind mi fun ds S => if plain1 S i then (match mLcGo i t e ds (S.set i none) with
    | none => none
    | some (ys, S1) => if small ys.length then some (.lst ys, S1.set i (S[i]?.getD none)) else none) else none
section
variable {K : PySem.W.Frag} {mg : Str → Option Value} {B : List (Nat × Addr)} {σ σ' : L2.St} {G G' H H' : Hp} {S S' : SS} {i : Nat}
theorem nx_put {x : Option SV} {v : Option V} (a : In G H) (r : RelS K mg B G H σ S) (h : plain1 S i = true) (hx : ∀ d, x ≠ some (.ow d) ∧ x ≠ some (.bw d)) (hv : ∀ d, x = some (.sh d) → ∃ u, v = some u ∧ DR K mg G d u) :
    NxS K mg B σ G H S (σ.set i v) G H (S.set i x) :=
  ⟨Sub.refl G, fun _ _ e => .inl e, a, fun _ _ e _ => e, fun _ o e => ⟨o, e⟩, fun _ q => .inl ((oa_put h hx).mp q), rel_put r h hx hv⟩
theorem Gr.allocH (i : In G H) {p : Addr} {o : HO} (h : H p = none) : Gr G H G (upd H p o) := by
  have hg := i.none h
  refine ⟨Sub.refl G, fun a u e => .inl e, fun a u e => ?_, fun a u e => ?_⟩
  · have q : a ≠ p := ne_of_none e hg
    rw [upd_ne q]
    exact i a u e
  · rw [upd_ne (ne_of_none e h)]; exact e
theorem NxS.upd_ (n : NxS K mg B σ G H S σ' G' H' S') {p : Addr} {o : HO} (h0 : H p = none) (hg : G' p = none) (ha : ¬ OA σ' S' p) : NxS K mg B σ G H S σ' G' (upd H' p o) S' := by
  refine ⟨n.sub, n.new, fun a u e => ?_, fun a u e z => ?_, fun a u e => ?_, n.oa, ⟨n.rel.len, n.rel.sh, fun j d z => ?_, n.rel.dis, n.rel.bw⟩⟩
  · rw [upd_ne (ne_of_none e hg)]; exact n.inn a u e
  · rw [upd_ne (ne_of_none e h0)]; exact n.kp a u e z
  · rw [upd_ne (ne_of_none e h0)]; exact n.some_ a u e
  · obtain ⟨q, e1, e2, e3⟩ := n.rel.ow j d z
    refine ⟨q, e1, e2, e3.mono (Sub.refl _) fun u e => ?_⟩
    have hq : q ≠ p := by rintro rfl; exact ha ⟨j, d, z, e1⟩
    rw [upd_ne hq]; exact e
theorem NxS.freeze (n : NxS K mg B σ G H S σ' G' H' S') {p : Addr} {o : HO} (h0 : H p = none) (hg : G' p = none) (hh : H' p = some o) (ha : ¬ OA σ' S' p) : NxS K mg B σ G H S σ' (upd G' p o) H' S' := by
  have sb : Sub G' (upd G' p o) := Sub.new hg
  refine ⟨n.sub.trans sb, fun a u e => ?_, fun a u e => ?_, n.kp, n.some_, n.oa, ⟨n.rel.len, fun j d z => ?_, fun j d z => ?_, n.rel.dis, n.rel.bw⟩⟩
  · by_cases q : a = p
    · subst q; exact .inr (.inl h0)
    · rw [upd_ne q] at e; exact n.new a u e
  · by_cases q : a = p
    · subst q; rw [upd_same] at e; cases e; exact .inl hh
    · rw [upd_ne q] at e; exact n.inn a u e
  · obtain ⟨v, e1, e2⟩ := n.rel.sh j d z
    exact ⟨v, e1, e2.mono sb⟩
  · obtain ⟨q, e1, e2, e3⟩ := n.rel.ow j d z
    have hq : q ≠ p := by rintro rfl; exact ha ⟨j, d, z, e1⟩
    exact ⟨q, e1, by rw [upd_ne hq]; exact e2, e3.mono sb fun _ e => e⟩
theorem NxS.still (n : NxS K mg B σ G H S σ' G' H' S') {p : Addr} {o : HO} (hh : H p = some o) (hg : G p = none) (ha : ¬ OA σ S p) : G' p = none := by
  cases q : G' p with
  | none => rfl
  | some u =>
    rcases n.new p u q with z | z | z
    · rw [hg] at z; cases z
    · rw [hh] at z; cases z
    · exact (ha z).elim
end
section
variable {X : Cx}
structure DTs (X : Cx) (ifs : List Expr) (m : M Bool) : Prop where
  pt : PTs X ifs (tMT X.K X.mg m)
  pat : ∀ S d S', m S = some (d, S') → Pat S S'
theorem dts_nil : DTs X [] (mPure true) := by
  refine ⟨⟨fun pins s σ H Q I q => ?_⟩, pat_pure⟩
  obtain ⟨G, _, _, f⟩ := W.pure q
  exact pts_nil.run pins s σ H Q I (f rfl)
theorem dts_one {c : Expr} {m : M Bool} (h : DT X c m) : DTs X [c] m := ⟨pts_one h.pt, h.pat⟩
theorem mLcGo_pat {i : Nat} {mt : M Bool} {me : M D} (pt : ∀ S d S', mt S = some (d, S') → Pat S S') (pe : ∀ S d S', me S = some (d, S') → Pat S S') : ∀ ds S ys S', plain1 S i = true → mLcGo i mt me ds S = some (ys, S') → Pat (S.set i none) (S'.set i none) := by
  intro ds
  induction ds with
  | nil => intro S ys S' _ h; cases h; exact Pat.refl _
  | cons d ds ih =>
    intro S ys S' hp h
    have hl := plain1_lt hp
    have base : ∀ S1, Pat (S.set i (some (.sh d))) S1 → Pat (S.set i none) (S1.set i none) := fun S1 p => by
      unfold Pat at p ⊢
      rw [List.map_set, List.map_set, p, List.map_set, List.set_set]
    unfold mLcGo at h
    split at h
    · cases h
    · rename_i S1 e1
      have p1 := pt _ _ _ e1
      have q1 : plain1 (S1.set i none) i = true := plain1_set (by have := congrArg List.length p1; simp at this; omega) none_ok
      have r := ih _ _ _ q1 h
      rw [List.set_set] at r
      exact (base _ p1).trans r
    · rename_i S1 e1
      split at h
      · cases h
      · rename_i y S2 e2
        split at h
        · cases h
        · rename_i ys' S3 e3
          cases h
          have p1 := (pt _ _ _ e1).trans (pe _ _ _ e2)
          have q1 : plain1 (S2.set i none) i = true := plain1_set (by have := congrArg List.length p1; simp at this; omega) none_ok
          have r := ih _ _ _ q1 e3
          rw [List.set_set] at r
          exact (base _ p1).trans r

theorem mLc_pat {i : Nat} {mi : M (List D)} {mt : M Bool} {me : M D} (pi : ∀ S d S', mi S = some (d, S') → Pat S S') (pt : ∀ S d S', mt S = some (d, S') → Pat S S') (pe : ∀ S d S', me S = some (d, S') → Pat S S') : ∀ S d S', mLc i mi mt me S = some (d, S') → Pat S S' := by
  refine pat_bind pi fun ds S d S' h => ?_
  split at h
  · rename_i hpl
    split at h
    · cases h
    · rename_i ys S1 eg
      split at h
      · cases h
        have hl := plain1_lt hpl
        have p := mLcGo_pat pt pe _ _ _ _ (plain1_set hl none_ok) eg
        rw [List.set_set] at p
        unfold Pat at p ⊢
        rw [List.map_set, List.map_set] at p
        rw [List.map_set]
        have q := congrArg (fun l => l.set i (skel (S[i]?.getD none))) p
        simp only [List.set_set] at q
        rw [q]
        apply List.ext_getElem?
        intro j
        by_cases hj : j = i
        · subst hj
          rw [List.getElem?_set_self (by rw [List.length_map]; exact hl), List.getElem?_map, List.getElem?_eq_getElem hl]
          rfl
        · rw [List.getElem?_set_ne (Ne.symm hj)]
      · cases h
  · cases h
theorem tLc_of {K : PySem.W.Frag} {mg : Str → Option Value} {i : Nat} {mi : M (List D)} {mt : M Bool} {me : M D} (pt : ∀ S d S', mt S = some (d, S') → Pat S S') (pe : ∀ S d S', me S = some (d, S') → Pat S S') {σ : L2.St} {H : Hp} {Q : VK} (q : tM K mg (mLc i mi mt me) σ H Q) :
    tLc (tMI K mg mi) (gName i) (tMT K mg mt) (tM K mg me) [i] σ H Q := by
  obtain ⟨B, G, S, r, S', a, b, c, ev, k⟩ := q
  obtain ⟨ds, S1, e1, e2⟩ := mBind_some ev
  refine ⟨B, G, S, ds, S1, a, b, c, e1, fun σ1 G1 H1 n1 es J ok => ?_⟩
  subst es
  split at e2
  · rename_i hpl
    split at e2
    · cases e2
    · rename_i ys S2 eg
      split at e2
      · rename_i hsm
        cases e2
        intro A hA
        have hl : i < S1.length := plain1_lt hpl
        have hlσ : i < σ1.length := by rw [← n1.rel.len]; exact hl
        have n2 := nx_put (x := none) (v := none) n1.inn n1.rel hpl none_ok (fun d z => by cases z)
        have r1 := n2.rel
        have nA : ∀ {Sk : SS}, Pat (S1.set i none) Sk → ¬ OA (σ1.set i none) Sk A := fun p z => by
          obtain ⟨j, d, z1, z2⟩ := p.oa z
          obtain ⟨p', e3, _, e4⟩ := r1.ow j d z1
          rw [z2] at e3
          cases e3
          obtain ⟨o, e5⟩ := e4.some_
          rw [hA] at e5
          cases e5
        refine ⟨fun t q Hk => q = ds.length - t ∧ t ≤ ds.length ∧ ∃ Gk Sk acc accV zs, Sub G1 Gk ∧ Pat (S1.set i none) Sk ∧ plain1 Sk i = true ∧ Hk A = some (.lst accV) ∧ Gk A = none ∧ DRs K mg Gk acc accV ∧ mLcGo i mt me (ds.drop t) Sk = some (zs, S2) ∧ acc ++ zs = ys ∧
          NxS K mg B (σ1.set i none) G1 H1 (S1.set i none) (σ1.set i none) Gk Hk Sk, ⟨ds.length, by omega, by omega, G1, S1.set i none, [], [], ys, Sub.refl _, Pat.refl _, plain1_set hl none_ok, upd_same, n1.inn.none hA, .nil, eg, rfl, (Gr.allocH n1.inn hA).nx r1⟩, ?_⟩
        rintro t q Hk ⟨rfl, ht2, Gk, Sk, acc, accV, zs, sb, pa, pl, hA2, gA, rA, evk, eq, nk⟩
        obtain ⟨go, stop⟩ := ok B (σ1.set i none) Gk Hk Sk sb nk.inn nk.rel t
        by_cases hlt : t < ds.length
        · have ed : ds[t]? = some ds[t] := List.getElem?_eq_getElem hlt
          obtain ⟨g1, yl⟩ := go _ ed
          rw [List.drop_eq_getElem_cons hlt] at evk
          refine .inr ⟨g1, fun H5 => t + 1 ≤ ds.length ∧ ∃ Gk Sk acc accV zs, Sub G1 Gk ∧ Pat (S1.set i none) Sk ∧ plain1 Sk i = true ∧ H5 A = some (.lst accV) ∧ Gk A = none ∧ DRs K mg Gk acc accV ∧ mLcGo i mt me (ds.drop (t + 1)) Sk = some (zs, S2) ∧ acc ++ zs = ys ∧
            NxS K mg B (σ1.set i none) G1 H1 (S1.set i none) (σ1.set i none) Gk H5 Sk, fun H5 z => ⟨ds.length - (t + 1), by omega, rfl, z⟩, fun xv H3 y => ?_⟩
          obtain ⟨G3, n3, q3⟩ := yl xv H3 y
          have hlk := plain1_lt pl
          have n4 := nx_put (x := some (.sh ds[t])) (v := some xv) n3.inn n3.rel pl (sh_ok _) (fun d z => by cases z; exact ⟨xv, rfl, q3⟩)
          have hA3 := n3.kp A _ hA2 (nA pa)
          have gA3 := n3.still hA2 gA (nA pa)
          have back : ∀ {v : Option V}, ((σ1.set i none).set i v).set i none = σ1.set i none := fun {v} => by rw [List.set_set, List.set_set]
          show wipe ((σ1.set i none).set i (some xv)) [i] = wipe σ1 [i] ∧ _
          refine ⟨by show ((σ1.set i none).set i (some xv)).set i none = σ1.set i none; exact back, ?_⟩
          have patIn : ∀ {S5 : SS}, Pat (Sk.set i (some (.sh ds[t]))) S5 → Pat (S1.set i none) (S5.set i none) ∧ plain1 S5 i = true := fun {S5} p => by
            refine ⟨?_, ?_⟩
            · unfold Pat at p pa ⊢
              simp only [List.map_set, List.set_set] at p pa ⊢
              rw [p, List.set_set, pa, List.set_set]
            · rw [p.plain]; exact plain1_set hlk (sh_ok _)
          have nA4 : ∀ {S5 : SS}, Pat (Sk.set i (some (.sh ds[t]))) S5 → ¬ OA ((σ1.set i none).set i (some xv)) S5 A := fun p z => by
            have z1 := p.oa z
            exact nA pa ((oa_put pl (sh_ok _)).mp z1)
          unfold mLcGo at evk
          split at evk
          · cases evk
          · rename_i S5 f1
            refine ⟨B, G3, _, false, S5, n4.inn, n4.rel, no_cs, f1, fun σ5 G5 H5 n5 es => ?_⟩
            subst es
            refine iteF ?_
            have p5 := pt _ _ _ f1
            obtain ⟨q5, q6⟩ := patIn p5
            have n6 := nx_put (x := none) (v := none) n5.inn n5.rel q6 none_ok (fun d z => by cases z)
            have n6 : NxS K mg B ((σ1.set i none).set i (some xv)) G5 H5 S5 (((σ1.set i none).set i (some xv)).set i none) G5 H5 (S5.set i none) := n6
            rw [back] at n6
            exact ⟨hlt, G5, S5.set i none, acc, accV, zs, (sb.trans n3.sub).trans n5.sub, q5, plain1_set (plain1_lt q6) none_ok, n5.kp A _ hA3 (nA4 (Pat.refl _)), n5.still hA3 gA3 (nA4 (Pat.refl _)), (rA.mono n3.sub).mono n5.sub, evk, eq, (((nk.trans n3).trans n4).trans n5).trans n6⟩
          · rename_i S5 f1
            split at evk
            · cases evk
            · rename_i yv S6 f2
              split at evk
              · cases evk
              · rename_i zs' S7 f3
                cases evk
                refine ⟨B, G3, _, true, S5, n4.inn, n4.rel, no_cs, f1, fun σ5 G5 H5 n5 es => ?_⟩
                subst es
                refine iteT ?_
                have p5 := pt _ _ _ f1
                refine ⟨B, G5, S5, yv, S6, n5.inn, n5.rel, no_cs, f2, fun σ6 G6 H6 n6 es u q6 => ?_⟩
                subst es
                have p6 := p5.trans (pe _ _ _ f2)
                obtain ⟨q7, q8⟩ := patIn p6
                have hA5 := n5.kp A _ hA3 (nA4 (Pat.refl _))
                have gA5 := n5.still hA3 gA3 (nA4 (Pat.refl _))
                have hA6 := n6.kp A _ hA5 (nA4 p5)
                have gA6 := n6.still hA5 gA5 (nA4 p5)
                have n7 := nx_put (x := none) (v := none) n6.inn n6.rel q8 none_ok (fun d z => by cases z)
                have n7 : NxS K mg B ((σ1.set i none).set i (some xv)) G6 H6 S6 (((σ1.set i none).set i (some xv)).set i none) G6 H6 (S6.set i none) := n7
                rw [back] at n7
                have hlen : accV.length < sizeLine := by
                  have e8 : ys.length = acc.length + (zs'.length + 1) := by rw [← eq, List.length_append, List.length_cons]
                  have e9 : ys.length ≤ sizeLine := of_decide_eq_true hsm
                  rw [rA.length]
                  omega
                refine ⟨accV, hA6, hlen, hlt, G6, S6.set i none, acc ++ [yv], accV ++ [u], zs', ((sb.trans n3.sub).trans n5.sub).trans n6.sub, q7, plain1_set (plain1_lt q8) none_ok, upd_same, gA6, ((((rA.mono n3.sub).mono n5.sub).mono n6.sub)).append (.cons q6 .nil), f3, by rw [← eq, List.append_assoc]; rfl, ?_⟩
                exact (((((nk.trans n3).trans n4).trans n5).trans n6).trans n7).upd_ hA gA6 (nA q7)
        · have e : t = ds.length := by omega
          subst e
          rw [List.drop_length] at evk
          cases evk
          rw [List.append_nil] at eq
          subst eq
          refine .inl ⟨stop (Nat.le_refl _), ?_⟩
          have hx : ∀ d, (S1[i]?.getD none) ≠ some (SV.ow d) ∧ (S1[i]?.getD none) ≠ some (SV.bw d) := fun d => by
            refine ⟨fun z => ?_, fun z => ?_⟩
            · cases w : S1[i]? with
              | none => rw [w] at z; cases z
              | some y => rw [w] at z; exact plain1_hs hpl (d := d) (.inl (by rw [w]; exact congrArg some z))
            · cases w : S1[i]? with
              | none => rw [w] at z; cases z
              | some y => rw [w] at z; exact plain1_hs hpl (d := d) (.inr (by rw [w]; exact congrArg some z))
          have n8 := nx_put (x := S1[i]?.getD none) (v := σ1[i]?.getD none) nk.inn nk.rel pl hx (fun d z => by
            cases w : S1[i]? with
            | none => rw [w] at z; cases z
            | some y =>
              rw [w] at z
              have z : y = some (SV.sh d) := z
              subst z
              obtain ⟨u, e1, e2⟩ := n1.rel.sh i d w
              exact ⟨u, by rw [e1]; rfl, e2.mono sb⟩)
          have bk : (σ1.set i none).set i (σ1[i]?.getD none) = σ1 := by
            rw [List.set_set, List.getElem?_eq_getElem hlσ]
            show σ1.set i σ1[i] = σ1
            exact List.set_getElem_self hlσ
          rw [bk] at n8
          have hA0 : H A = none := by
            cases w : H A with
            | none => rfl
            | some o =>
              obtain ⟨o', e⟩ := n1.some_ A o w
              rw [hA] at e
              cases e
          have nAll := ((n1.trans n2).trans nk).trans n8
          have nf := nAll.freeze hA0 gA hA2 (fun z => nA pa (by
            have := (oa_put (v := σ1[i]?.getD none) (σ := σ1.set i none) pl hx).mp (by rw [bk]; exact z)
            exact this))
          refine k _ _ _ nf rfl _ ?_
          rw [DR]
          exact ⟨A, accV, rfl, upd_same, rA.mono (Sub.new gA)⟩
      · cases e2
  · cases e2

theorem de_lc {elt tg iter : Expr} {ifs : List Expr} {scope : Scope} {x : Str} {i : Nat} {pos : Pos} {mi : M (List D)} {mt : M Bool} {me : M D} (hc : X.calm = true) (hN : X.N.Nodup) (hi : DI X tg iter mi) (ok : BlkOk X.N X.env.scope scope [(x, i)])
    (hg : ∀ (s : Shared) (H : Hp) (C : Addr) (cl : List (Str × Addr)) (fp : List Addr), PG (X.blk s H scope (compEnvC scope cl C X.env) fp) tg (gName i))
    (ht : ∀ (s : Shared) (H : Hp) (C : Addr) (cl : List (Str × Addr)) (fp : List Addr), DTs (X.blk s H scope (compEnvC scope cl C X.env) fp) ifs mt)
    (he : ∀ (s : Shared) (H : Hp) (C : Addr) (cl : List (Str × Addr)) (fp : List Addr), DE (X.blk s H scope (compEnvC scope cl C X.env) fp) elt me) (hs : ∀ x, foldedSetIterable iter X.env x = pure x := by intro _; rfl) :
    DE X (.ListComp elt [⟨tg, iter, ifs, 0⟩] scope pos) (mLc i mi mt me) := by
  have pt := (ht X.s_0 X.H_0 0 [] []).pat
  have pe := (he X.s_0 X.H_0 0 [] []).pat
  exact ⟨PE.imp (pe_lc (own := [(x, i)]) (g := gName i) (tt := tMT X.K X.mg mt) (te := tM X.K X.mg me) hc hN hi.pi ok hg (fun s H C cl fp => (ht s H C cl fp).pt) (fun s H C cl fp => (he s H C cl fp).pe) hs) fun σ H Q q => tLc_of pt pe q, mLc_pat hi.pat pt pe⟩
end
end SK
namespace SK
open PySem PySem.Spec PyProof.Rows L2
/-! ### defs, where no repr is under way around the call -/
abbrev Quiet (A : Around) : Prop := A.guards = some []
structure FnG (P : Program) (w : World) (K : PySem.W.Frag) (mg : Str → Option Value) (base : Heap) (CX : CXT) (k : Nat) (f : Addr) (fd : FuncData) (ps : List Str) (sp : Sp) : Prop where
  len : ∀ vs H Q E, sp vs H Q E → vs.length = ps.length
  go : ∀ (A : Around) (outer : List Env) (s : Shared) (H : Hp) (args : Args) (us : List Value) (vs : List V) (Q : VK) (E : XK), Room k A → Quiet A → Env0 P w K mg base A outer s H →
    BindsTo s fd args (ps.zip us) → Vals vs us → sp vs H Q E → codeAny (model P w) A (.call (.ref f) args) (CR CX outer P w H s Q E) s
section
variable {P : Program} {w : World} {K : PySem.W.Frag} {mg : Str → Option Value} {base : Heap} {CX : CXT} {k : Nat} {f : Addr} {fd : FuncData} {ps : List Str} {sp : Sp}
theorem FnG.up {j : Nat} (F : FnG P w K mg base CX j f fd ps sp) (h : j ≤ k) : FnG P w K mg base CX k f fd ps sp :=
  ⟨F.len, fun A outer s H args us vs Q E hr => F.go A outer s H args us vs Q E (hr.mono h)⟩
theorem FnG.weaken {sp' : Sp} (F : FnG P w K mg base CX k f fd ps sp) (h : ∀ vs H Q E, sp' vs H Q E → sp vs H Q E) : FnG P w K mg base CX k f fd ps sp' :=
  ⟨fun vs H Q E q => F.len vs H Q E (h vs H Q E q), fun A outer s H args us vs Q E hr hg he hb hv hs => F.go A outer s H args us vs Q E hr hg he hb hv (h vs H Q E hs)⟩
theorem FnG.body {x qual : Str} {st : Stmt} {N : List Str} (F : Fun K x qual st f fd) (Sc : FnScope N ps (defScope st)) (len : ∀ vs H Q E, sp vs H Q E → vs.length = ps.length)
    (hb : ∀ (cd : Value) (A : Around) (outer : List Env) (s : Shared) (H : Hp) (vs : List V) (Q : VK) (E : XK), Room k (A.deeper (envOfC qual (defScope st) s.heap.objs.size f cd)) → Quiet A → sp vs H Q E →
      ∃ t, PSs (cxOf CX P w K mg base N qual (defScope st) f cd A outer s H E) (defBody st) t ∧ t { nx := fun _ H' => Q .non H', rt := Q } (start N vs) H) :
    FnG P w K mg base CX (k + 1) f fd ps sp := by
  obtain ⟨oc, od, kV, doc, pm, an, cd, ct, osl, efd, lk, hcd⟩ := F.ex
  subst efd
  constructor
  · exact len
  · intro A outer s H args us vs Q E hr hq e0 hbd rv hsp
    have keep1 : ∀ b o, base.get? b = some o → s.heap.get? b = some o := fun b o e => (e0.bs b o e).1
    have KX : K.In s.heap := e0.mod.kin.keeps keep1
    have NL : s.heap.NoLimit := e0.mod.nolimit.keeps keep1
    apply codeAny_call_function hr.depth (KX _ _ lk) rfl Sc.co Sc.gen rfl (PySem.W.codeRec_of KX hcd)
    apply hbd
    apply wpAny_newFunctionEnv_cells Sc.kind
    · rintro ⟨n, v⟩ hy
      cases Sc.par n (List.of_mem_zip hy).1 with
      | inl q => exact .inl q
      | inr q => exact .inr ⟨q, PySem.W.cellsFrom_some _ _ _ (.inl q)⟩
    · intro env he s1 x1
      subst he
      constructor
      · exact NL.keeps x1.toInCall.keep
      · apply codeAny_func
        obtain ⟨t, ht, hgo⟩ := hb cd A outer s H vs Q E (hr.deeper _) hq hsp
        have I0 := inv_start (CX := CX) (E := E) Sc hr.hd e0 (len vs H Q E hsp) rv x1
        refine wpAny_mono (ht.run [] s1 _ H _ I0 hgo) ?_ fun e s' z => z
        intro fl s' z
        cases fl with
        | ret u =>
          obtain ⟨v, σ', H', J, r', q⟩ := z
          exact ⟨v, H', J.os, J.bare, J.base, J.hok, r', q⟩
        | next =>
          obtain ⟨σ', H', J, q⟩ := z
          exact ⟨V.non, H', J.os, J.bare, J.base, J.hok, rfl, q⟩
        | brk => obtain ⟨_, _, _, q⟩ := z; exact q.elim
        | cont => obtain ⟨_, _, _, q⟩ := z; exact q.elim
/-- how such a def answers a call -/
theorem FnG.answers {X : Cx} {E : XK} (F : FnG X.prog X.w X.K X.mg X.base CX k f fd ps sp) (hr : Room k X.A) (hq : Quiet X.A) (hb : Binds X.K fd ps []) (hx : Passes CX X E) : CallR X (.ref f) fun vs H Q => sp vs H Q E := by
  intro pins s σ H vs us Q I rv h
  have hl : (us ++ []).length = ps.length := by
    rw [List.append_nil, ← rv.length]
    exact F.len _ _ _ _ h
  have hbd := hb s us I.kIn hl
  rw [List.append_nil] at hbd
  apply wpAny_call
  refine codeAny_mono (F.go X.A X.stack s H ⟨us, []⟩ us vs Q E hr hq I.env0 hbd rv h) ?_
  intro r s' z
  cases r with
  | error e => exact hx pins σ H s e s' I z
  | ok fl =>
    cases fl with
    | ret u => exact I.after z
    | next => exact False.elim z
    | brk => exact False.elim z
    | cont => exact False.elim z
end
section
variable {X : Cx} {x : Str} {p pos : Pos} {a : Expr} {es : List Expr} {f : Addr} {r : List V → Hp → VK → Prop} {t : TA}
theorem pe_callF (hc : CallR X (.ref f) r) (hg : Gl X x) (hm : X.mg x = some (.ref f)) (hk : PySem.W.keepIn X.K (.ref f) = true) (ha : PA X (a :: es) t) (hdb : (x == ("__debug__" : Str)) = false)
    (he : starEach (a :: es) X.env = (false, eval a X.env) :: starEach es X.env) (hpl : (backTo pos (starEach es X.env)).any (·.1) = false) : PE X (.Call (.Name x p) (a :: es) [] pos) (tCB r t) := by
  constructor
  intro pins s σ H Q I h
  apply wpAny_Call_Name_kw
  apply ld_glob I hg hm _ hdb
  apply PySem.W.callWith_K (h₀ := X.base) I.ok.mod.kin hk _ he hpl
  refine thn (ha.run pos pins s σ H _ I h) ?_
  rintro us s1 ⟨vs, H1, I1, rv, q⟩
  exact ⟨I1.kIn, hc pins s1 σ H1 vs us Q I1 rv q⟩
theorem pe_callF0 (hc : CallR X (.ref f) r) (hg : Gl X x) (hm : X.mg x = some (.ref f)) (hk : PySem.W.keepIn X.K (.ref f) = true) (hdb : (x == ("__debug__" : Str)) = false) : PE X (.Call (.Name x p) [] [] pos) (tCB r tNil) := by
  constructor
  intro pins s σ H Q I h
  apply wpAny_Call_Name_kw
  apply ld_glob I hg hm _ hdb
  exact PySem.W.callWith_K0 I.kIn hk (hc pins s σ H [] [] Q I .nil h)
end
/-! ### calls: a def that changes nothing -/
section
variable {X : Cx} {x : Str} {p pos : Pos} {a : Expr} {es : List Expr} {f : Addr} {fd : FuncData} {ps : List Str} {CX : CXT} {k n : Nat} {E : XK} {fn : List D → Option D} {ms : M (List D)}
theorem spP_len {K : PySem.W.Frag} {mg : Str → Option Value} {vs : List V} {H : Hp} {Q : VK} {E : XK} (h : spP K mg n fn vs H Q E) : vs.length = n := by
  obtain ⟨G, ds, d, _, r, e, _⟩ := h
  rw [r.length, e]
theorem de_fn (F : FnG X.prog X.w X.K X.mg X.base CX k f fd ps (spP X.K X.mg n fn)) (hr : Room k X.A) (hq : Quiet X.A) (hg : Gl X x) (hm : X.mg x = some (.ref f)) (hk : PySem.W.keepIn X.K (.ref f) = true)
    (hb : Binds X.K fd ps []) (hx : Passes CX X E) (ha : DA X (a :: es) ms) (hn : (a :: es).length = n := by rfl)
    (hdb : (x == ("__debug__" : Str)) = false := by decide) (he : starEach (a :: es) X.env = (false, eval a X.env) :: starEach es X.env := by rfl) (hpl : (backTo pos (starEach es X.env)).any (·.1) = false := by rfl) :
    DE X (.Call (.Name x p) (a :: es) [] pos) (mCall fn ms) := by
  refine ⟨PE.imp (pe_callF (F.answers hr hq hb hx) hg hm hk ha.pa hdb he hpl) fun σ H Q q => ?_, pat_bind ha.pat fun _ => pat_opt⟩
  refine (tMA_len ha (W.bindA q)).mono fun vs H1 ⟨hv, ds, hl, w1⟩ => ?_
  obtain ⟨B, G, S, d', S', i, rl, c, ev, k⟩ := w1
  obtain ⟨e1, e2⟩ := mOpt_some ev
  subst e2
  exact ⟨G, ds, d', i, .of_zip hl fun x hx => c x (by simp [hx]), by rw [hl, hv, hn], e1, fun w G' H' gr q => k σ G' H' (gr.nx rl) rfl w q⟩
theorem de_fn0 (F : FnG X.prog X.w X.K X.mg X.base CX k f fd ps (spP X.K X.mg 0 fn)) (hr : Room k X.A) (hq : Quiet X.A) (hg : Gl X x) (hm : X.mg x = some (.ref f)) (hk : PySem.W.keepIn X.K (.ref f) = true)
    (hb : Binds X.K fd ps []) (hx : Passes CX X E) (hdb : (x == ("__debug__" : Str)) = false := by decide) : DE X (.Call (.Name x p) [] [] pos) (mCall fn mNil) := by
  refine ⟨PE.imp (pe_callF0 (F.answers hr hq hb hx) hg hm hk hdb) fun σ H Q q => ?_, pat_bind pat_pure fun _ => pat_opt⟩
  obtain ⟨B, G, S, d', S', i, rl, c, ev, k⟩ := q
  obtain ⟨ds, S1, e0, ev⟩ := mBind_some ev
  cases e0
  obtain ⟨e1, e2⟩ := mOpt_some ev
  subst e2
  exact ⟨G, [], d', i, .nil, rfl, e1, fun w G' H' gr q => k σ G' H' (gr.nx rl) rfl w q⟩
end
/-! ### a def's function from its body's -/
def startS (N : List Str) (ds : List D) : SS := ds.map (fun d => some (SV.sh d)) ++ List.replicate (N.length - ds.length) none
theorem startS_at {N : List Str} {ds : List D} {i : Nat} {x : Option SV} (e : (startS N ds)[i]? = some x) : (∃ d, ds[i]? = some d ∧ x = some (SV.sh d)) ∨ x = none := by
  unfold startS at e
  by_cases hi : i < ds.length
  · rw [List.getElem?_append_left (by simpa using hi), List.getElem?_map, List.getElem?_eq_getElem hi] at e
    exact .inl ⟨_, List.getElem?_eq_getElem hi, (Option.some.inj e).symm⟩
  · rw [List.getElem?_append_right (by simpa using hi), List.getElem?_replicate] at e
    split at e
    · exact .inr (Option.some.inj e).symm
    · cases e
theorem startS_no {N : List Str} {ds : List D} {i : Nat} {d : D} : ¬ Hs (startS N ds) i d := by
  rintro (z | z)
  · rcases startS_at z with ⟨_, _, q⟩ | q <;> cases q
  · rcases startS_at z with ⟨_, _, q⟩ | q <;> cases q
theorem start_at {N : List Str} {vs : List V} {i : Nat} {v : V} (h : vs[i]? = some v) : (L2.start N vs)[i]? = some (some v) := by
  have hi := (List.getElem?_eq_some_iff.mp h).1
  unfold L2.start
  rw [List.getElem?_append_left (by rw [List.length_map]; exact hi), List.getElem?_map, h]
  rfl
section
variable {K : PySem.W.Frag} {mg : Str → Option Value} {G H : Hp} {N : List Str} {ds : List D} {vs : List V} {c : D} {p : Addr}
theorem rel_start (r : DRs K mg G ds vs) : RelS K mg [] G H (L2.start N vs) (startS N ds) := by
  refine ⟨?_, fun i d e => ?_, fun i d z => (startS_no z).elim, fun i _ d _ _ z => (startS_no z).elim, fun i p z => by cases z⟩
  · unfold startS L2.start
    simp only [List.length_append, List.length_map, List.length_replicate, r.length]
  · rcases startS_at e with ⟨d', e1, e2⟩ | e2
    · cases e2
      obtain ⟨v, hv, q⟩ := r.get e1
      exact ⟨v, start_at hv, q⟩
    · cases e2
end
/-- what comes out: a return, or the body's end -/
def outOf : Out → Option D
  | .rt d => some d
  | .nx => some .non
  | _ => none
theorem Reach.out {K : PySem.W.Frag} {mg : Str → Option Value} {Q : VK} {o : Out} {d : D} {σ' : L2.St} {G' H' : Hp} (e : outOf o = some d) (h : ∀ v, DR K mg G' d v → Q v H') : Reach K mg { nx := fun _ H' => Q .non H', rt := Q } o σ' G' H' := by
  cases o with
  | rt d' => cases e; exact h
  | nx => cases e; exact h _ (by rw [DR])
  | bk => cases e
  | ct => cases e
def runF (N : List Str) (m : M Out) (ds : List D) : Option D := match m (startS N ds) with
  | some (r, _) => outOf r
  | none => none
variable {P : Program} {w : World} {K : PySem.W.Frag} {mg : Str → Option Value} {base : Heap} {k n : Nat} {f : Addr} {fd : FuncData} {N ps : List Str} {x qual : Str} {st : Stmt} {m : M Out}
theorem fn_pure (F : Fun K x qual st f fd) (Sc : FnScope N ps (defScope st)) (hn : ps.length = n)
    (h : ∀ (cd : Value) (A : Around) (outer : List Env) (s : Shared) (H : Hp) (E : XK), Room k (A.deeper (envOfC qual (defScope st) s.heap.objs.size f cd)) → Quiet A → DSs (cxOf CX0 P w K mg base N qual (defScope st) f cd A outer s H E).nox (defBody st) m) :
    FnG P w K mg base CX0 (k + 1) f fd ps (spP K mg n (runF N m)) := by
  refine FnG.body F Sc (fun vs H Q E q => by rw [spP_len q, hn]) fun cd A outer s H vs Q E hr hq q => ⟨_, PSs.nox (h cd A outer s H E hr hq).ps, ?_⟩
  obtain ⟨G, ds, d, i, r, hl, ev, kk⟩ := q
  unfold runF at ev
  split at ev
  · rename_i o S' e1
    have no : ∀ a, ¬ OA (L2.start N vs) (startS N ds) a := fun a ⟨j, d2, z1, _⟩ => startS_no z1
    refine ⟨[], G, _, o, S', i, rel_start r, no_cs, e1, fun σ' G' H' n => Reach.out ev fun v q => kk v G' H' ⟨n.sub, fun a u e => ?_, n.inn, fun a u e => n.kp a u e (no a)⟩ q⟩
    rcases n.new a u e with z | z | z
    · exact .inl z
    · exact .inr z
    · exact (no a z).elim
  · cases ev
/-! ### an object that is lent: the first parameter -/
structure GrB (p : Addr) (G H G' H' : Hp) : Prop where
  sub : Sub G G'
  new : ∀ a o, G' a = some o → G a = some o ∨ H a = none
  inn : In G' H'
  kp : ∀ a o, a ≠ p → H a = some o → H' a = some o
  gp : G' p = none
def own1 (S : SS) (i : Nat) : Option D := match S[i]? with
  | some (some (.ow c)) => some c
  | some (some (.bw c)) => some c
  | _ => none
def putO (S : SS) (i : Nat) (c : D) : SS := match S[i]? with
  | some (some (.ow _)) => S.set i (some (.ow c))
  | some (some (.bw _)) => S.set i (some (.bw c))
  | _ => S
section
variable {B : List (Nat × Addr)} {σ : L2.St} {G G' H H' : Hp} {S S' : SS} {i : Nat} {c c' : D} {p : Addr}
theorem own1_hs (h : own1 S i = some c) : Hs S i c := by
  unfold own1 at h
  split at h
  · cases h; exact .inl (by assumption)
  · cases h; exact .inr (by assumption)
  · cases h
theorem putO_ne {j : Nat} (h : j ≠ i) : (putO S i c)[j]? = S[j]? := by
  unfold putO
  split
  · rw [List.getElem?_set_ne (Ne.symm h)]
  · rw [List.getElem?_set_ne (Ne.symm h)]
  · rfl
theorem putO_len : (putO S i c).length = S.length := by
  unfold putO
  split
  · rw [List.length_set]
  · rw [List.length_set]
  · rfl
theorem putO_at {d : D} (h : Hs S i c') (q : Hs (putO S i c) i d) : d = c := by
  unfold putO at q
  rcases h with h | h
  · have hl := (List.getElem?_eq_some_iff.mp h).1
    rw [h] at q
    rcases q with q | q
    · rw [List.getElem?_set_self hl] at q; cases q; rfl
    · rw [List.getElem?_set_self hl] at q; cases q
  · have hl := (List.getElem?_eq_some_iff.mp h).1
    rw [h] at q
    rcases q with q | q
    · rw [List.getElem?_set_self hl] at q; cases q
    · rw [List.getElem?_set_self hl] at q; cases q; rfl
theorem putO_is (h : Hs S i c') : Hs (putO S i c) i c := by
  unfold putO
  rcases h with h | h
  · have hl := (List.getElem?_eq_some_iff.mp h).1
    rw [h]
    exact .inl (List.getElem?_set_self hl)
  · have hl := (List.getElem?_eq_some_iff.mp h).1
    rw [h]
    exact .inr (List.getElem?_set_self hl)
theorem putO_pat : Pat S (putO S i c) := by
  unfold Pat putO
  split
  · rename_i c0 e
    rw [List.map_set]
    apply List.ext_getElem?
    intro j
    have hl := (List.getElem?_eq_some_iff.mp e).1
    by_cases hj : j = i
    · subst hj
      rw [List.getElem?_set_self (by rw [List.length_map]; exact hl), List.getElem?_map, e]
      rfl
    · rw [List.getElem?_set_ne (Ne.symm hj)]
  · rename_i c0 e
    rw [List.map_set]
    apply List.ext_getElem?
    intro j
    have hl := (List.getElem?_eq_some_iff.mp e).1
    by_cases hj : j = i
    · subst hj
      rw [List.getElem?_set_self (by rw [List.length_map]; exact hl), List.getElem?_map, e]
      rfl
    · rw [List.getElem?_set_ne (Ne.symm hj)]
  · rfl
/-- our object at p (slot i) has changed, nothing else; something may be new -/
theorem GrB.nx (g : GrB p G H G' H') (r : RelS K mg B G H σ S) (h : Hs S i c) (hp : σ[i]? = some (some (.ref p))) (o : Own K mg G' H' c' p) : NxS K mg B σ G H S σ G' H' (putO S i c') := by
  have pa : Pat S (putO S i c') := putO_pat
  have ohp : ∃ u, H p = some u := by
    obtain ⟨p', e1, _, e2⟩ := r.ow i c h
    rw [hp] at e1
    cases e1
    exact e2.some_
  refine ⟨g.sub, fun a u e => (g.new a u e).imp id Or.inl, g.inn, fun a u e n => g.kp a u (fun z => n (z ▸ ⟨i, c, h, hp⟩)) e, fun a u e => ?_, fun a q => .inl (pa.oa q), ⟨by rw [putO_len]; exact r.len, fun j d e => ?_, fun j d z => ?_, fun j l d e q z1 z2 y1 y2 => ?_, fun j q hb => ?_⟩⟩
  · by_cases ha : a = p
    · subst ha; exact o.some_
    · exact ⟨u, g.kp a u ha e⟩
  · have hj : j ≠ i := by
      rintro rfl
      have q := pa.at j
      rw [e] at q
      rcases h with h | h
      · rw [h] at q; cases q
      · rw [h] at q; cases q
    rw [putO_ne hj] at e
    obtain ⟨v, e1, e2⟩ := r.sh j d e
    exact ⟨v, e1, e2.mono g.sub⟩
  · by_cases hj : j = i
    · subst hj
      have e := putO_at h z
      subst e
      exact ⟨p, hp, g.gp, o⟩
    · have z' : Hs S j d := by
        rcases z with z | z
        · rw [putO_ne hj] at z; exact .inl z
        · rw [putO_ne hj] at z; exact .inr z
      obtain ⟨q, e1, e2, e3⟩ := r.ow j d z'
      have hq : q ≠ p := by
        rintro rfl
        exact hj (r.dis j i d c q z' h e1 hp)
      refine ⟨q, e1, ?_, e3.mono g.sub fun u e => g.kp q u hq e⟩
      cases y : G' q with
      | none => rfl
      | some u =>
        obtain ⟨u', hu'⟩ := e3.some_
        rcases g.new q u y with w | w
        · rw [e2] at w; cases w
        · rw [hu'] at w; cases w
  · obtain ⟨d1, w1⟩ := pa.hs z1
    obtain ⟨d2, w2⟩ := pa.hs z2
    exact r.dis j l d1 d2 q w1 w2 y1 y2
  · obtain ⟨⟨d, e⟩, e2⟩ := r.bw j q hb
    refine ⟨?_, e2⟩
    by_cases hj : j = i
    · subst hj
      refine ⟨c', ?_⟩
      unfold putO
      rw [e]
      exact List.getElem?_set_self (List.getElem?_eq_some_iff.mp e).1
    · exact ⟨d, by rw [putO_ne hj]; exact e⟩
end
def spB (K : PySem.W.Frag) (mg : Str → Option Value) (n : Nat) (fn : D → List D → Option (D × D)) : Sp := fun vs H Q _ => ∃ p rest G c ds d c', vs = V.ref p :: rest ∧ In G H ∧ G p = none ∧ Own K mg G H c p ∧ DRs K mg G ds rest ∧ ds.length = n ∧ fn c ds = some (d, c') ∧
  ∀ v G' H', GrB p G H G' H' → Own K mg G' H' c' p → DR K mg G' d v → Q v H'
theorem spB_len {fn : D → List D → Option (D × D)} {vs : List V} {H : Hp} {Q : VK} {E : XK} (h : spB K mg n fn vs H Q E) : vs.length = n + 1 := by
  obtain ⟨p, rest, G, c, ds, d, c', rfl, _, _, _, r, e, _⟩ := h
  show rest.length + 1 = n + 1
  rw [r.length, e]
def mFnB (i : Nat) (fn : D → List D → Option (D × D)) (ms : M (List D)) : M D := mBind ms fun ds S => match own1 S i with
  | some c => (match fn c ds with
    | some (d, c') => some (d, putO S i c')
    | none => none)
  | none => none
theorem de_fnB {X : Cx} {x y : Str} {i : Nat} {p1 p2 pos : Pos} {es : List Expr} {E : XK} {CX : CXT} {fn : D → List D → Option (D × D)} {ms : M (List D)} (F : FnG X.prog X.w X.K X.mg X.base CX k f fd ps (spB X.K X.mg n fn)) (hr : Room k X.A) (hq : Quiet X.A) (hg : Gl X x) (hm : X.mg x = some (.ref f)) (hk : PySem.W.keepIn X.K (.ref f) = true)
    (hb : Binds X.K fd ps []) (hx : Passes CX X E) (hv : PE X (.Name y p1) (tVar i)) (ha : DA X es ms) (hn : es.length = n := by rfl)
    (hdb : (x == ("__debug__" : Str)) = false := by decide) (he : starEach (.Name y p1 :: es) X.env = (false, eval (.Name y p1) X.env) :: starEach es X.env := by rfl) (hpl : (backTo pos (starEach es X.env)).any (·.1) = false := by rfl) :
    DE X (.Call (.Name x p2) (.Name y p1 :: es) [] pos) (mFnB i fn ms) := by
  refine ⟨PE.imp (pe_callF (F.answers hr hq hb hx) hg hm hk (pa_cons hv ha.pa he) hdb he hpl) fun σ H Q q => ?_, pat_bind ha.pat fun ds S d S' h => ?_⟩
  · obtain ⟨B, G, S, d', S', i0, rl, c, ev, kk⟩ := q
    obtain ⟨ds, S1, e1, e2⟩ := mBind_some ev
    have pa := ha.pat _ _ _ e1
    split at e2
    · rename_i c0 eo
      split at e2
      · rename_i d1 c1 ef
        cases e2
        have h1 := own1_hs eo
        obtain ⟨c2, h0⟩ := pa.hs h1
        obtain ⟨a, ea, _⟩ := rl.ow i c2 h0
        refine ⟨.ref a, ea, B, G, S, ds, S1, i0, rl, no_cs, e1, fun σ' G1 H1 n1 es vs qv => ?_⟩
        subst es
        obtain ⟨a', ea', g1, o1⟩ := n1.rel.ow i c0 h1
        rw [ea] at ea'
        cases ea'
        exact ⟨a, vs, G1, c0, ds, _, c1, rfl, n1.inn, g1, o1, qv, by rw [ha.len _ _ _ e1, hn], ef, fun v G' H' gb ow q => kk _ _ _ (n1.trans (gb.nx n1.rel h1 ea ow)) rfl v q⟩
      · cases e2
    · cases e2
  · split at h
    · split at h
      · cases h; exact putO_pat
      · cases h
    · cases h
def startB (N : List Str) (c : D) (ds : List D) : SS := some (.bw c) :: (ds.map (fun d => some (SV.sh d)) ++ List.replicate (N.length - (ds.length + 1)) none)
def runB (N : List Str) (m : M Out) (c : D) (ds : List D) : Option (D × D) := match m (startB N c ds) with
  | some (r, S') => (match outOf r, S'[0]? with
    | some d, some (some (SV.bw c')) => some (d, c')
    | _, _ => none)
  | none => none
theorem startB_hs {c d : D} {ds : List D} {i : Nat} (h : Hs (startB N c ds) i d) : i = 0 ∧ d = c := by
  cases i with
  | zero =>
    rcases h with h | h
    · cases h
    · cases h; exact ⟨rfl, rfl⟩
  | succ j =>
    exfalso
    have h' : Hs (startS (N.drop 1) ds) j d := by
      have e : (startB N c ds)[j + 1]? = (startS (N.drop 1) ds)[j]? := by
        unfold startB startS
        rw [List.getElem?_cons_succ, List.length_drop, show N.length - (ds.length + 1) = N.length - 1 - ds.length by omega]
      rcases h with h | h
      · rw [e] at h; exact .inl h
      · rw [e] at h; exact .inr h
    exact startS_no h'
theorem fn_lent (F : Fun K x qual st f fd) (Sc : FnScope N ps (defScope st)) (hn : ps.length = n + 1)
    (h : ∀ (cd : Value) (A : Around) (outer : List Env) (s : Shared) (H : Hp) (E : XK), Room k (A.deeper (envOfC qual (defScope st) s.heap.objs.size f cd)) → Quiet A → DSs (cxOf CX0 P w K mg base N qual (defScope st) f cd A outer s H E).nox (defBody st) m) :
    FnG P w K mg base CX0 (k + 1) f fd ps (spB K mg n (runB N m)) := by
  refine FnG.body F Sc (fun vs H Q E q => by rw [spB_len q, hn]) fun cd A outer s H vs Q E hr hq q => ⟨_, PSs.nox (h cd A outer s H E hr hq).ps, ?_⟩
  obtain ⟨p, rest, G, c, ds, d, c', rfl, i, gp, o, r, hl, ev, kk⟩ := q
  have oa0 : ∀ a, OA (L2.start N (V.ref p :: rest)) (startB N c ds) a → a = p := fun a ⟨j, d2, z1, z2⟩ => by
    obtain ⟨e1, _⟩ := startB_hs z1
    subst e1
    rw [start_at (v := V.ref p) rfl] at z2
    cases z2
    rfl
  have rl : RelS K mg [(0, p)] G H (L2.start N (V.ref p :: rest)) (startB N c ds) := by
    refine ⟨?_, fun j d2 e => ?_, fun j d2 z => ?_, fun j l d2 e q z1 z2 _ _ => ?_, fun j q z => ?_⟩
    · unfold startB L2.start
      simp only [List.length_append, List.length_map, List.length_replicate, List.length_cons, r.length]
      omega
    · cases j with
      | zero => cases e
      | succ j =>
        have e' : (startS (N.drop 1) ds)[j]? = some (some (SV.sh d2)) := by
          unfold startB at e
          rw [List.getElem?_cons_succ] at e
          unfold startS
          rw [List.length_drop, show N.length - 1 - ds.length = N.length - (ds.length + 1) by omega]
          exact e
        rcases startS_at e' with ⟨d3, e1, e2⟩ | e2
        · cases e2
          obtain ⟨v, hv, q⟩ := r.get e1
          exact ⟨v, start_at (by simpa using hv), q⟩
        · cases e2
    · obtain ⟨e1, e2⟩ := startB_hs z
      subst e1 e2
      exact ⟨p, start_at rfl, gp, o⟩
    · rw [(startB_hs z1).1, (startB_hs z2).1]
    · rw [List.mem_singleton] at z
      cases z
      exact ⟨⟨c, rfl⟩, start_at rfl⟩
  unfold runB at ev
  split at ev
  · rename_i ro S' e1
    split at ev
    · rename_i d1 c1 e2 e3
      cases ev
      refine ⟨[(0, p)], G, _, ro, S', i, rl, no_cs, e1, fun σ' G' H' n => ?_⟩
      obtain ⟨_, eb⟩ := n.rel.bw 0 p (by simp)
      obtain ⟨p', ep, gp', o'⟩ := n.rel.ow 0 _ (.inr e3)
      rw [eb] at ep
      cases ep
      refine Reach.out e2 fun v q => kk v G' H' ⟨n.sub, fun a u e => ?_, n.inn, fun a u ha e => n.kp a u e fun z => ha (oa0 a z), gp'⟩ o' q
      rcases n.new a u e with z | z | z
      · exact .inl z
      · exact .inr z
      · rw [oa0 a z, gp'] at e
        cases e
    · cases ev
  · cases ev
end SK
namespace SK
open PySem PySem.Spec PyProof.Rows L2
/-! ### operators by data -/
def orR (r r' : R2) : R2 := fun x y H Q => r x y H Q ∨ r' x y H Q
theorem OpR.either {X : Cx} {f : Value → Value → Sem Value} {r r' : R2} (h : OpR X f r) (h' : OpR X f r') : OpR X f (orR r r') := fun pins s σ H x y v u Q I rx ry q => by
  rcases q with q | q
  · exact h pins s σ H x y v u Q I rx ry q
  · exact h' pins s σ H x y v u Q I rx ry q
def or2 (g g' : D → D → Option D) : D → D → Option D := fun x y => match g x y with
  | some d => some d
  | none => g' x y
theorem OpD.either {K : PySem.W.Frag} {mg : Str → Option Value} {r r' : R2} {g g' : D → D → Option D} (h : OpD K mg r g) (h' : OpD K mg r' g') : OpD K mg (orR r r') (or2 g g') := by
  intro G H x y dx dy d Q i rx ry e k
  unfold or2 at e
  split at e
  · cases e
    exact .inl (h G H x y dx dy _ Q i rx ry (by assumption) k)
  · exact .inr (h' G H x y dx dy d Q i rx ry e k)
section
variable {K : PySem.W.Frag} {mg : Str → Option Value} {G H : Hp}
theorem dr_int {i : Int} {v : V} (h : DR K mg G (.int i) v) : v = .int i := by rw [DR] at h; exact h
theorem dr_bl {i : Bool} {v : V} (h : DR K mg G (.bl i) v) : v = .bl i := by rw [DR] at h; exact h
theorem dr_str {i : Str} {v : V} (h : DR K mg G (.str i) v) : v = .str i := by rw [DR] at h; exact h
theorem is_int (i : Int) : DR K mg G (.int i) (.int i) := by rw [DR]
theorem is_bl (i : Bool) : DR K mg G (.bl i) (.bl i) := by rw [DR]
theorem is_str (i : Str) : DR K mg G (.str i) (.str i) := by rw [DR]
theorem is_non : DR K mg G .non .non := by rw [DR]
/-- two ints to a value, where C holds -/
def gI (c : Int → Int → Bool) (g : Int → Int → D) : D → D → Option D
  | .int i, .int j => if c i j then some (g i j) else none
  | _, _ => none
theorem od_I {C : Int → Int → Prop} {gv : Int → Int → V} {c : Int → Int → Bool} {g : Int → Int → D} (hc : ∀ i j, c i j = true → C i j) (hg : ∀ (G : Hp) i j, DR K mg G (g i j) (gv i j)) : OpD K mg (rI C gv) (gI c g) := by
  intro G H x y dx dy d Q i rx ry e k
  unfold gI at e
  split at e
  · split at e
    · rename_i a b hab
      cases e
      exact ⟨a, b, dr_int rx, dr_int ry, hc a b hab, k _ G H (Gr.refl i) (hg G a b)⟩
    · cases e
  · cases e
def gI0 (g : Int → Int → D) : D → D → Option D
  | .int i, .int j => some (g i j)
  | _, _ => none
theorem od_I0 {gv : Int → Int → V} {g : Int → Int → D} (hg : ∀ (G : Hp) i j, DR K mg G (g i j) (gv i j)) : OpD K mg (rI0 gv) (gI0 g) := by
  intro G H x y dx dy d Q i rx ry e k
  unfold gI0 at e
  split at e
  · rename_i a b
    cases e
    exact ⟨a, b, dr_int rx, dr_int ry, k _ G H (Gr.refl i) (hg G a b)⟩
  · cases e
def gS0 (g : Str → Str → D) : D → D → Option D
  | .str i, .str j => some (g i j)
  | _, _ => none
theorem od_S0 {gv : Str → Str → V} {g : Str → Str → D} (hg : ∀ (G : Hp) i j, DR K mg G (g i j) (gv i j)) : OpD K mg (fun x y H Q => ∃ i j, x = .str i ∧ y = .str j ∧ Q (gv i j) H) (gS0 g) := by
  intro G H x y dx dy d Q i rx ry e k
  unfold gS0 at e
  split at e
  · rename_i a b
    cases e
    exact ⟨a, b, dr_str rx, dr_str ry, k _ G H (Gr.refl i) (hg G a b)⟩
  · cases e
/-! + -/
def gAddS : D → D → Option D
  | .str a, .str b => if small (a.length + b.length) then some (.str (a ++ b)) else none
  | _, _ => none
def gAddL : D → D → Option D
  | .lst a, .lst b => if small (a.length + b.length) then some (.lst (a ++ b)) else none
  | _, _ => none
def gAddT : D → D → Option D
  | .tup a, .tup b => if small (a.length + b.length) then some (.tup (a ++ b)) else none
  | _, _ => none
def rAddS : R2 := fun x y H Q => ∃ i j, x = .str i ∧ y = .str j ∧ i.length + j.length ≤ sizeLine ∧ Q (.str (i ++ j)) H
theorem od_addS : OpD K mg rAddS gAddS := by
  intro G H x y dx dy d Q i rx ry e k
  unfold gAddS at e
  split at e
  · split at e
    · rename_i a b hab
      cases e
      exact ⟨a, b, dr_str rx, dr_str ry, of_decide_eq_true hab, k _ G H (Gr.refl i) (is_str _)⟩
    · cases e
  · cases e
theorem od_addL : OpD K mg rCat gAddL := by
  intro G H x y dx dy d Q i rx ry e k
  unfold gAddL at e
  split at e
  · split at e
    · rename_i a b hab
      cases e
      rw [DR] at rx ry
      obtain ⟨p, xs, rfl, ep, r1⟩ := rx
      obtain ⟨q, ys, rfl, eq, r2⟩ := ry
      refine ⟨p, q, xs, ys, rfl, rfl, i.lst ep, i.lst eq, by rw [r1.length, r2.length]; exact of_decide_eq_true hab, fun l hl => ?_⟩
      have gr := Gr.alloc (o := .lst (xs ++ ys)) i hl
      refine k _ _ _ gr ?_
      rw [DR]
      exact ⟨l, _, rfl, upd_same, (r1.append r2).mono gr.sub⟩
    · cases e
  · cases e
theorem DRs.nil_iff {ds : List D} {xs : List V} (r : DRs K mg G ds xs) : xs = [] ↔ ds = [] := by
  have h := r.length
  constructor
  · rintro rfl
    exact List.eq_nil_of_length_eq_zero h.symm
  · rintro rfl
    exact List.eq_nil_of_length_eq_zero h
theorem od_addT : OpD K mg (rCatA K) gAddT := by
  intro G H x y dx dy d Q i rx ry e k
  unfold gAddT at e
  split at e
  · split at e
    · rename_i a b hab
      cases e
      have rx' := rx
      have ry' := ry
      rw [DR] at rx ry
      obtain ⟨p, xs, rfl, ep, r1⟩ := rx
      obtain ⟨q, ys, rfl, eq, r2⟩ := ry
      refine ⟨p, q, xs, ys, rfl, rfl, i.tup ep, i.tup eq, by rw [r1.length, r2.length]; exact of_decide_eq_true hab, fun z => ?_, fun _ z => ?_, fun _ _ l hl => ?_⟩
      · rw [r1.nil_iff] at z
        subst z
        exact k _ G H (Gr.refl i) ry'
      · rw [r2.nil_iff] at z
        subst z
        rw [List.append_nil] at k
        exact k _ G H (Gr.refl i) rx'
      · have gr := Gr.alloc (o := .tup (xs ++ ys)) i hl
        refine k _ _ _ gr ?_
        rw [DR]
        exact ⟨l, _, rfl, .of upd_same, (r1.append r2).mono gr.sub⟩
    · cases e
  · cases e
def gAdd : D → D → Option D := or2 (gI0 fun i j => .int (i + j)) (or2 gAddS (or2 gAddL gAddT))
/-! the other operators on ints -/
def gSub : D → D → Option D := gI0 fun i j => .int (i - j)
def cMul (i j : Int) : Bool := decide (i.natAbs.log2 + j.natAbs.log2 < 1000000)
def gMulI : D → D → Option D := gI cMul fun i j => .int (i * j)
def cDiv (_ j : Int) : Bool := decide (0 < j) && decide (j.natAbs.log2 < 9000)
def gDiv : D → D → Option D := gI cDiv fun i j => .int (i / j)
def cMod (_ j : Int) : Bool := decide (0 < j)
def gMod : D → D → Option D := gI cMod fun i j => .int (i % j)
def cPow (i j : Int) : Bool := decide (0 ≤ j) && decide ((Builtin.Int.intBits i : Int) * j ≤ 2 ^ 27)
def gPow : D → D → Option D := gI cPow fun i j => .int (i ^ j.toNat)
/-! * of lists, texts -/
def gMulL : D → D → Option D
  | .lst a, .int n => if decide (-(2 ^ 63) ≤ n) && decide (n < 2 ^ 63) && small (a.length * n.toNat) then some (.lst (List.replicate n.toNat a).flatten) else none
  | _, _ => none
theorem DRs.reps {ds : List D} {xs : List V} (r : DRs K mg G ds xs) : ∀ n, DRs K mg G (List.replicate n ds).flatten (List.replicate n xs).flatten
  | 0 => .nil
  | n + 1 => by
    rw [List.replicate_succ, List.replicate_succ, List.flatten_cons, List.flatten_cons]
    exact r.append (DRs.reps r n)
theorem od_mulL : OpD K mg rRep gMulL := by
  intro G H x y dx dy d Q i rx ry e k
  unfold gMulL at e
  split at e
  · split at e
    · rename_i a n hab
      cases e
      rw [Bool.and_eq_true, Bool.and_eq_true] at hab
      rw [DR] at rx
      obtain ⟨p, xs, rfl, ep, r1⟩ := rx
      refine ⟨p, n, xs, rfl, dr_int ry, i.lst ep, of_decide_eq_true hab.1.1, of_decide_eq_true hab.1.2, by rw [r1.length]; exact of_decide_eq_true hab.2, fun l hl => ?_⟩
      have gr := Gr.alloc (o := .lst (List.replicate n.toNat xs).flatten) i hl
      refine k _ _ _ gr ?_
      rw [DR]
      exact ⟨l, _, rfl, upd_same, (r1.reps _).mono gr.sub⟩
    · cases e
  · cases e
def cMulS (x : Str) (n : Int) : Bool := decide (1 ≤ n) && decide (n ≤ 100000) && decide (x.length ≤ 100000) && small (x.length * n.toNat)
def gMulS : D → D → Option D
  | .str a, .int n => if cMulS a n then some (.str (Txt.mul a n)) else none
  | _, _ => none
def rMulS : R2 := fun x y H Q => ∃ a n, x = .str a ∧ y = .int n ∧ cMulS a n = true ∧ Q (.str (Txt.mul a n)) H
theorem od_mulS : OpD K mg rMulS gMulS := by
  intro G H x y dx dy d Q i rx ry e k
  unfold gMulS at e
  split at e
  · split at e
    · rename_i a n hab
      cases e
      exact ⟨a, n, dr_str rx, dr_int ry, hab, k _ G H (Gr.refl i) (is_str _)⟩
    · cases e
  · cases e
end
section
variable {X : Cx}
theorem op_addAny : OpR X (binaryOp .Add) (orR (rI0 fun i j => .int (i + j)) (orR rAddS (orR rCat (rCatA X.K)))) := OpR.either op_add (OpR.either op_add_str (OpR.either op_cat op_catA))
theorem od_addAny : OpD X.K X.mg (orR (rI0 fun i j => .int (i + j)) (orR rAddS (orR rCat (rCatA X.K)))) gAdd := (od_I0 fun _ _ _ => is_int _).either (od_addS.either (od_addL.either od_addT))
theorem od_subAny : OpD X.K X.mg (rI0 fun i j => .int (i - j)) gSub := od_I0 fun _ _ _ => is_int _
theorem op_mulS : OpR X (binaryOp .Mult) rMulS := by
  intro pins s σ H x y v u Q I rx ry h
  obtain ⟨a, n, rfl, rfl, hc, q⟩ := h
  obtain ⟨t, rfl⟩ := rx
  obtain ⟨t', rfl⟩ := ry
  unfold cMulS at hc
  simp only [Bool.and_eq_true, decide_eq_true_eq] at hc
  obtain ⟨⟨⟨h1, h2⟩, h3⟩, h4⟩ := hc
  have hs : (a.length * n.toNat) ≤ sizeLine := of_decide_eq_true h4
  refine SB.mul ⟨?_, fun _ _ => ?_, fun _ _ => ?_⟩ fun t' k => ⟨.str _, H, I.tok _, ⟨_, rfl⟩, q⟩
  · rw [Bool.or_eq_false_iff]
    exact ⟨decide_eq_false (by omega), decide_eq_false (by omega)⟩
  · intro z
    have e1 : (100000 : Int) ≤ (2 ^ 63 - 1) / n := by
      rw [Int.le_ediv_iff_mul_le (by omega)]
      omega
    omega
  · exact decide_eq_false (by omega)
theorem op_mulAny : OpR X (binaryOp .Mult) (orR (rI CMulW fun i j => .int (i * j)) (orR rRep rMulS)) := OpR.either op_mulW (OpR.either op_rep op_mulS)
def gMul : D → D → Option D := or2 gMulI (or2 gMulL gMulS)
theorem od_mulAny : OpD X.K X.mg (orR (rI CMulW fun i j => .int (i * j)) (orR rRep rMulS)) gMul := (od_I (c := cMul) (fun i j h => show i.natAbs.log2 + j.natAbs.log2 < 1000000 from of_decide_eq_true h) fun _ _ _ => is_int _).either (od_mulL.either od_mulS)
theorem od_div : OpD X.K X.mg (rI CDivW fun i j => .int (i / j)) gDiv := od_I (fun i j h => by
  unfold cDiv at h
  simp only [Bool.and_eq_true, decide_eq_true_eq] at h
  exact h) fun _ _ _ => is_int _
theorem od_mod : OpD X.K X.mg (rI (fun _ j => 0 < j) fun i j => .int (i % j)) gMod := od_I (fun i j h => of_decide_eq_true h) fun _ _ _ => is_int _
def CPowW (i j : Int) : Prop := 0 ≤ j ∧ (Builtin.Int.intBits i : Int) * j ≤ 2 ^ 27
theorem op_powW : OpR X (binaryOp .Pow) (rI CPowW fun i j => .int (i ^ j.toNat)) := by
  intro pins s σ H x y v u Q I rx ry h
  obtain ⟨i, j, rfl, rfl, ⟨h1, h2⟩, q⟩ := h
  obtain ⟨t, rfl⟩ := rx
  obtain ⟨t', rfl⟩ := ry
  exact pow_int h1 h2 ⟨.int _, H, I.tok _, ⟨_, rfl⟩, q⟩
theorem od_pow : OpD X.K X.mg (rI CPowW fun i j => .int (i ^ j.toNat)) gPow := od_I (fun i j h => by
  unfold cPow at h
  simp only [Bool.and_eq_true, decide_eq_true_eq] at h
  exact h) fun _ _ _ => is_int _
/-! ### order -/
abbrev ltS (a b : Str) : Bool := decide (a.cps.toList < b.cps.toList)
def gLt : D → D → Option D := or2 (gI0 fun i j => .bl (decide (i < j))) (gS0 fun a b => .bl (ltS a b))
def gLe : D → D → Option D := gI0 fun i j => .bl (decide (i ≤ j))
def gGt : D → D → Option D := gI0 fun i j => .bl (decide (j < i))
def gGe : D → D → Option D := gI0 fun i j => .bl (decide (j ≤ i))
def rLtA : R2 := orR (rI0 fun i j => .bl (decide (i < j))) fun x y H Q => ∃ i j, x = .str i ∧ y = .str j ∧ Q (.bl (decide (i.cps.toList < j.cps.toList))) H
theorem op_ltA : OpR X (compareOp .Lt) rLtA := OpR.either op_lt op_lt_str
theorem od_lt : OpD X.K X.mg rLtA gLt := (od_I0 fun _ _ _ => is_bl _).either (od_S0 fun _ _ _ => is_bl _)
theorem od_le : OpD X.K X.mg (rI0 fun i j => .bl (decide (i ≤ j))) gLe := od_I0 fun _ _ _ => is_bl _
theorem od_gt : OpD X.K X.mg (rI0 fun i j => .bl (decide (j < i))) gGt := od_I0 fun _ _ _ => is_bl _
theorem od_ge : OpD X.K X.mg (rI0 fun i j => .bl (decide (j ≤ i))) gGe := od_I0 fun _ _ _ => is_bl _
end
end SK
namespace SK
open PySem PySem.Spec PyProof.Rows L2
/-! ### equality -/
mutual
def toPy : D → PyData
  | .non => .none
  | .bl b => .bool b
  | .int i => .int i
  | .str s => .str s
  | .tup ds => .tuple (toPys ds)
  | .lst ds => .list (toPys ds)
  | _ => .none
def toPys : List D → List PyData
  | [] => []
  | d :: ds => toPy d :: toPys ds
end
mutual
/-- None, bools, ints, texts, tuples and lists of such -/
def pl : D → Bool
  | .non => true
  | .bl _ => true
  | .int _ => true
  | .str _ => true
  | .tup ds => pls ds
  | .lst ds => pls ds
  | _ => false
def pls : List D → Bool
  | [] => true
  | d :: ds => pl d && pls ds
end
section
variable {K : PySem.W.Frag} {mg : Str → Option Value} {G H : Hp}
mutual
theorem DR.dp (i : In G H) : ∀ (d : D) (v : V), pl d = true → DR K mg G d v → Dp K H v (toPy d)
  | .non, v, _, r => by rw [DR] at r; subst r; rw [toPy]; exact .non
  | .bl b, v, _, r => by rw [DR] at r; subst r; rw [toPy]; exact .bl b
  | .int b, v, _, r => by rw [DR] at r; subst r; rw [toPy]; exact .int b
  | .str b, v, _, r => by rw [DR] at r; subst r; rw [toPy]; exact .str b
  | .tup ds, v, h, r => by
    rw [DR] at r
    rw [pl] at h
    obtain ⟨a, xs, rfl, s, q⟩ := r
    rw [toPy]
    exact .tup (i.tup s) (DRs.dp i ds xs h q)
  | .lst ds, v, h, r => by
    rw [DR] at r
    rw [pl] at h
    obtain ⟨a, xs, rfl, s, q⟩ := r
    rw [toPy]
    exact .lst (.of (i.lst s)) (DRs.dp i ds xs h q)
  | .dct _, v, h, r => by rw [pl] at h; cases h; all_goals (intros; contradiction)
  | .ins _ _, v, h, r => by rw [pl] at h; cases h; all_goals (intros; contradiction)
  | .cls _, v, h, r => by rw [pl] at h; cases h; all_goals (intros; contradiction)
  | .ty _, v, h, r => by rw [pl] at h; cases h; all_goals (intros; contradiction)
  | .scr _, v, h, r => by rw [pl] at h; cases h; all_goals (intros; contradiction)
theorem DRs.dp (i : In G H) : ∀ (ds : List D) (vs : List V), pls ds = true → DRs K mg G ds vs → DpAll K H vs (toPys ds)
  | [], vs, _, r => by rw [DRs] at r; subst r; rw [toPys]; exact .nil
  | d :: ds, vs, h, r => by
    rw [DRs] at r
    rw [pls, Bool.and_eq_true] at h
    obtain ⟨v, ws, rfl, r1, r2⟩ := r
    rw [toPys]
    exact .cons (DR.dp i d v h.1 r1) (DRs.dp i ds ws h.2 r2)
end
def eqS : D → D → Option Bool
  | .str a, .str b => some (decide (a = b))
  | .int a, .int b => some (decide (a = b))
  | .bl a, .bl b => some (decide (a = b))
  | .non, .non => some true
  | .non, .str _ => some false
  | .str _, .non => some false
  | _, _ => none
def okEq (d : D) : Bool := pl d && SeqAt.shaped (toPy d)
def eqP (d e : D) : Option Bool := match eqS d e with
  | some b => some b
  | none => if okEq d && okEq e then some (PyData.eqv (toPy d) (toPy e)) else none
def gEq (d e : D) : Option D := (eqP d e).map D.bl
def gNe (d e : D) : Option D := (eqP d e).map fun b => D.bl (!b)
theorem eqS_some {d e : D} {b : Bool} {x y : V} (h : eqS d e = some b) (rx : DR K mg G d x) (ry : DR K mg G e y) : scal x y = true ∧ decide (x = y) = b := by
  unfold eqS at h
  split at h
  all_goals first
    | (cases h; done)
    | (simp only [DR] at rx ry; subst rx ry; cases h; refine ⟨rfl, ?_⟩; first | rfl | (simp; done))
theorem od_eq : OpD K mg (orR rEq (rEqD K)) gEq := by
  intro G H x y dx dy d Q i rx ry e k
  unfold gEq eqP at e
  split at e
  · rename_i b hb
    cases e
    obtain ⟨h1, h2⟩ := eqS_some hb rx ry
    exact .inl ⟨h1, by rw [h2]; exact k _ G H (Gr.refl i) (is_bl _)⟩
  · split at e
    · rename_i hok
      cases e
      unfold okEq at hok
      simp only [Bool.and_eq_true] at hok
      exact .inr ⟨toPy dx, toPy dy, rx.dp i _ _ hok.1.1, ry.dp i _ _ hok.2.1, hok.1.2, hok.2.2, k _ G H (Gr.refl i) (is_bl _)⟩
    · cases e
theorem od_ne : OpD K mg (orR rNe (rNeD K)) gNe := by
  intro G H x y dx dy d Q i rx ry e k
  unfold gNe eqP at e
  split at e
  · rename_i b hb
    cases e
    obtain ⟨h1, h2⟩ := eqS_some hb rx ry
    exact .inl ⟨h1, by rw [h2]; exact k _ G H (Gr.refl i) (is_bl _)⟩
  · split at e
    · rename_i hok
      cases e
      unfold okEq at hok
      simp only [Bool.and_eq_true] at hok
      exact .inr ⟨toPy dx, toPy dy, rx.dp i _ _ hok.1.1, ry.dp i _ _ hok.2.1, hok.1.2, hok.2.2, k _ G H (Gr.refl i) (is_bl _)⟩
    · cases e
/-! ### in -/
/-- one sign in a text -/
def inSign : D → D → Option Bool
  | .str a, .str b => (match a.cps.toList with
    | [c] => some (decide (c ∈ b.cps.toList))
    | _ => none)
  | _, _ => none
def toV : D → Option V
  | .non => some .non
  | .bl b => some (.bl b)
  | .int i => some (.int i)
  | .str s => some (.str s)
  | _ => none
def toVs : List D → Option (List V)
  | [] => some []
  | d :: ds => match toV d, toVs ds with
    | some v, some vs => some (v :: vs)
    | _, _ => none
theorem toV_dr {d : D} {v u : V} (h : toV d = some v) (r : DR K mg G d u) : u = v ∧ flatV v = true := by
  cases d <;> first | (cases h; rw [DR] at r; subst r; exact ⟨rfl, rfl⟩) | cases h
theorem toVs_dr : ∀ {ds : List D} {vs us : List V}, toVs ds = some vs → DRs K mg G ds us → us = vs ∧ vs.all flatV = true
  | [], vs, us, h, r => by rw [DRs] at r; subst r; cases h; exact ⟨rfl, rfl⟩
  | d :: ds, vs, us, h, r => by
    rw [DRs] at r
    obtain ⟨v, ws, rfl, r1, r2⟩ := r
    unfold toVs at h
    split at h
    · rename_i a b h1 h2
      cases h
      obtain ⟨e1, e2⟩ := toV_dr h1 r1
      obtain ⟨e3, e4⟩ := toVs_dr h2 r2
      subst e1 e3
      exact ⟨rfl, by rw [List.all_cons, e2, e4]; rfl⟩
    · cases h
def inSeq : D → D → Option Bool
  | x, .tup ds => (match toV x, toVs ds with
    | some v, some vs => some (inV v vs)
    | _, _ => none)
  | x, .lst ds => (match toV x, toVs ds with
    | some v, some vs => some (inV v vs)
    | _, _ => none)
  | _, _ => none
def inP (x y : D) : Option Bool := match inSign x y with
  | some b => some b
  | none => inSeq x y
def gIn (x y : D) : Option D := (inP x y).map D.bl
def gNotIn (x y : D) : Option D := (inP x y).map fun b => D.bl (!b)
def rInS1 (neg : Bool) : R2 := fun x y H Q => ∃ (c : Nat) (z : Str), x = .str ⟨#[c]⟩ ∧ y = .str z ∧ Q (.bl (if neg then !decide (c ∈ z.cps.toList) else decide (c ∈ z.cps.toList))) H
theorem inSign_some {dx dy : D} {x y : V} {b : Bool} (h : inSign dx dy = some b) (rx : DR K mg G dx x) (ry : DR K mg G dy y) : ∃ (c : Nat) (z : Str), x = .str ⟨#[c]⟩ ∧ y = .str z ∧ decide (c ∈ z.cps.toList) = b := by
  unfold inSign at h
  split at h
  · rename_i a z
    split at h
    · rename_i c hc
      cases h
      rw [dr_str rx, dr_str ry]
      refine ⟨c, z, ?_, rfl, rfl⟩
      obtain ⟨cps⟩ := a
      obtain ⟨l⟩ := cps
      have hc : l = [c] := hc
      subst hc
      rfl
    · cases h
  · cases h
theorem inSeq_some {dx dy : D} {x y : V} {b : Bool} (i : In G H) (h : inSeq dx dy = some b) (rx : DR K mg G dx x) (ry : DR K mg G dy y) : ∃ p xs, y = .ref p ∧ (SqL K H p xs ∨ SqT K H p xs) ∧ flatV x = true ∧ xs.all flatV = true ∧ inV x xs = b := by
  unfold inSeq at h
  split at h
  · split at h
    · rename_i v vs h1 h2
      cases h
      rw [DR] at ry
      obtain ⟨a, xs, rfl, s, q⟩ := ry
      obtain ⟨e1, e2⟩ := toV_dr h1 rx
      obtain ⟨e3, e4⟩ := toVs_dr h2 q
      subst e1 e3
      exact ⟨a, _, rfl, .inr (i.tup s), e2, e4, rfl⟩
    · cases h
  · split at h
    · rename_i v vs h1 h2
      cases h
      rw [DR] at ry
      obtain ⟨a, xs, rfl, s, q⟩ := ry
      obtain ⟨e1, e2⟩ := toV_dr h1 rx
      obtain ⟨e3, e4⟩ := toVs_dr h2 q
      subst e1 e3
      exact ⟨a, _, rfl, .inl (.of (i.lst s)), e2, e4, rfl⟩
    · cases h
  · cases h
theorem od_in : OpD K mg (orR (rInS1 false) (rIn K false)) gIn := by
  intro G H x y dx dy d Q i rx ry e k
  unfold gIn inP at e
  split at e
  · rename_i b hb
    cases e
    obtain ⟨c, z, h1, h2, h3⟩ := inSign_some hb rx ry
    exact .inl ⟨c, z, h1, h2, k _ G H (Gr.refl i) (by rw [h3]; exact is_bl _)⟩
  · cases h : inSeq dx dy with
    | none => rw [h] at e; cases e
    | some b =>
      rw [h] at e
      cases e
      obtain ⟨p, xs, h1, h2, h3, h4, h5⟩ := inSeq_some i h rx ry
      exact .inr ⟨p, xs, h1, h2, h3, h4, k _ G H (Gr.refl i) (by rw [h5]; exact is_bl _)⟩
theorem od_notIn : OpD K mg (orR (rInS1 true) (rIn K true)) gNotIn := by
  intro G H x y dx dy d Q i rx ry e k
  unfold gNotIn inP at e
  split at e
  · rename_i b hb
    cases e
    obtain ⟨c, z, h1, h2, h3⟩ := inSign_some hb rx ry
    exact .inl ⟨c, z, h1, h2, k _ G H (Gr.refl i) (by rw [h3]; exact is_bl _)⟩
  · cases h : inSeq dx dy with
    | none => rw [h] at e; cases e
    | some b =>
      rw [h] at e
      cases e
      obtain ⟨p, xs, h1, h2, h3, h4, h5⟩ := inSeq_some i h rx ry
      exact .inr ⟨p, xs, h1, h2, h3, h4, k _ G H (Gr.refl i) (by rw [h5]; exact is_bl _)⟩
/-! ### an item by its place -/
def gIx : D → D → Option D
  | .lst ds, .int i => atI ds i
  | .tup ds, .int i => atI ds i
  | .str s, .int i => if small s.length then (atI s.cps.toList i).map fun c => .str ⟨#[c]⟩ else none
  | .scr ns, .int i => (atI ns i).map D.int
  | _, _ => none
theorem DRs.atI {ds : List D} {xs : List V} {i : Int} {d : D} (r : DRs K mg G ds xs) (h : L2.atI ds i = some d) : ∃ v, L2.atI xs i = some v ∧ DR K mg G d v := by
  unfold L2.atI at h ⊢
  rw [r.length]
  cases e : ixN ds.length i with
  | none => rw [e] at h; cases h
  | some j =>
    rw [e] at h
    exact r.get h
theorem od_ix : OpD K mg (rIx K) gIx := by
  intro G H x y dx dy d Q i rx ry e k
  unfold gIx at e
  split at e
  · rw [DR] at rx
    obtain ⟨a, xs, rfl, s, q⟩ := rx
    obtain ⟨v, h1, h2⟩ := q.atI e
    exact .inl ⟨a, xs, _, v, rfl, dr_int ry, .of (i.lst s), h1, k _ G H (Gr.refl i) h2⟩
  · rw [DR] at rx
    obtain ⟨a, xs, rfl, s, q⟩ := rx
    obtain ⟨v, h1, h2⟩ := q.atI e
    exact .inr (.inl ⟨a, xs, _, v, rfl, dr_int ry, i.tup s, h1, k _ G H (Gr.refl i) h2⟩)
  · split at e
    · rename_i s j hs
      cases h : atI s.cps.toList j with
      | none => rw [h] at e; cases e
      | some c =>
        rw [h] at e
        cases e
        exact .inr (.inr ⟨s, j, c, dr_str rx, dr_int ry, of_decide_eq_true hs, h, k _ G H (Gr.refl i) (is_str _)⟩)
    · cases e
  · rename_i ns j
    cases h : atI ns j with
    | none => rw [h] at e; cases e
    | some c =>
      rw [h] at e
      cases e
      rw [DR] at rx
      obtain ⟨a, rfl, s⟩ := rx
      refine .inl ⟨a, ns.map V.int, j, .int c, rfl, dr_int ry, (i.scr s).sq, ?_, k _ G H (Gr.refl i) (is_int _)⟩
      unfold L2.atI at h ⊢
      rw [List.length_map]
      cases e : ixN ns.length j with
      | none => rw [e] at h; cases h
      | some l =>
        rw [e] at h
        show (ns.map V.int)[l]? = _
        have h : ns[l]? = some c := h
        rw [List.getElem?_map, h]
        rfl
  · cases e
end
section
variable {X : Cx}
theorem op_eqA (hu : X.A.units + 64 < cLine) : OpR X (compareOp .Eq) (orR rEq (rEqD X.K)) := OpR.either op_eq (op_eqD hu)
theorem op_neA (hu : X.A.units + 64 < cLine) : OpR X (compareOp .NotEq) (orR rNe (rNeD X.K)) := OpR.either op_ne (op_neD hu)
theorem op_inA : OpR X (compareOp .In) (orR (rInS1 false) (rIn X.K false)) := OpR.either op_in_sign op_in_seq
theorem op_notInA : OpR X (compareOp .NotIn) (orR (rInS1 true) (rIn X.K true)) := OpR.either op_notIn_sign op_notIn_seq
end
end SK
namespace SK
open PySem PySem.Spec PyProof.Rows L2
section
variable {K : PySem.W.Frag} {mg : Str → Option Value} {G H : Hp}
theorem drs1 {d : D} {vs : List V} (r : DRs K mg G [d] vs) : ∃ v, vs = [v] ∧ DR K mg G d v := by
  rw [DRs] at r
  obtain ⟨v, ws, rfl, r1, r2⟩ := r
  rw [DRs] at r2
  subst r2
  exact ⟨v, rfl, r1⟩
theorem drs2 {d e : D} {vs : List V} (r : DRs K mg G [d, e] vs) : ∃ v u, vs = [v, u] ∧ DR K mg G d v ∧ DR K mg G e u := by
  rw [DRs] at r
  obtain ⟨v, ws, rfl, r1, r2⟩ := r
  obtain ⟨u, rfl, r3⟩ := drs1 r2
  exact ⟨v, u, rfl, r1, r3⟩
/-! ### built-ins -/
def gLen : List D → Option D
  | [.str s] => if small s.length then some (.int s.length) else none
  | [.lst ds] => some (.int ds.length)
  | [.tup ds] => some (.int ds.length)
  | [.scr ns] => some (.int ns.length)
  | _ => none
theorem cd_len : CallD K mg (fun xs H Q => ∃ x n, xs = [x] ∧ LenV K x H n ∧ Q (.int (n : Nat)) H) gLen := by
  intro G H vs ds d Q i r e k
  unfold gLen at e
  split at e
  · split at e
    · rename_i s hs
      cases e
      obtain ⟨v, rfl, r1⟩ := drs1 r
      rw [dr_str r1]
      exact ⟨_, s.length, rfl, ⟨of_decide_eq_true hs, rfl⟩, k _ G H (Gr.refl i) (is_int _)⟩
    · cases e
  · cases e
    obtain ⟨v, rfl, r1⟩ := drs1 r
    rw [DR] at r1
    obtain ⟨a, xs, rfl, s, q⟩ := r1
    exact ⟨_, xs.length, rfl, .inl ⟨xs, .of (i.lst s), rfl⟩, k _ G H (Gr.refl i) (by rw [q.length]; exact is_int _)⟩
  · cases e
    obtain ⟨v, rfl, r1⟩ := drs1 r
    rw [DR] at r1
    obtain ⟨a, xs, rfl, s, q⟩ := r1
    exact ⟨_, xs.length, rfl, .inr ⟨xs, i.tup s, rfl⟩, k _ G H (Gr.refl i) (by rw [q.length]; exact is_int _)⟩
  · rename_i ns
    cases e
    obtain ⟨v, rfl, r1⟩ := drs1 r
    rw [DR] at r1
    obtain ⟨a, rfl, s⟩ := r1
    exact ⟨_, (ns.map V.int).length, rfl, .inl ⟨_, (i.scr s).sq, rfl⟩, k _ G H (Gr.refl i) (by rw [List.length_map]; exact is_int _)⟩
  · cases e
def asBs : List D → Option (List Bool)
  | [] => some []
  | .bl b :: ds => (asBs ds).map (b :: ·)
  | _ :: _ => none
theorem asBs_dr : ∀ {ds : List D} {bs : List Bool} {vs : List V}, asBs ds = some bs → DRs K mg G ds vs → vs = bs.map V.bl
  | [], bs, vs, h, r => by rw [DRs] at r; subst r; cases h; rfl
  | d :: ds, bs, vs, h, r => by
    rw [DRs] at r
    obtain ⟨v, ws, rfl, r1, r2⟩ := r
    cases d with
    | bl b =>
      unfold asBs at h
      cases e : asBs ds with
      | none => rw [e] at h; cases h
      | some cs =>
        rw [e] at h
        cases h
        rw [asBs_dr e r2, dr_bl r1]
        rfl
    | _ => cases h
def gAll : List D → Option D
  | [.lst ds] => (asBs ds).map fun bs => .bl (bs.all id)
  | _ => none
def gAny : List D → Option D
  | [.lst ds] => (asBs ds).map fun bs => .bl (bs.any id)
  | _ => none
theorem cd_all : CallD K mg (rAll K) gAll := by
  intro G H vs ds d Q i r e k
  unfold gAll at e
  split at e
  · rename_i es
    cases h : asBs es with
    | none => rw [h] at e; cases e
    | some bs =>
      rw [h] at e
      cases e
      obtain ⟨v, rfl, r1⟩ := drs1 r
      rw [DR] at r1
      obtain ⟨a, xs, rfl, s, q⟩ := r1
      rw [asBs_dr h q] at s
      exact ⟨a, bs, rfl, .of (i.lst s), k _ G H (Gr.refl i) (is_bl _)⟩
  · cases e
theorem cd_any : CallD K mg (rAny K) gAny := by
  intro G H vs ds d Q i r e k
  unfold gAny at e
  split at e
  · rename_i es
    cases h : asBs es with
    | none => rw [h] at e; cases e
    | some bs =>
      rw [h] at e
      cases e
      obtain ⟨v, rfl, r1⟩ := drs1 r
      rw [DR] at r1
      obtain ⟨a, xs, rfl, s, q⟩ := r1
      rw [asBs_dr h q] at s
      exact ⟨a, bs, rfl, .of (i.lst s), k _ G H (Gr.refl i) (is_bl _)⟩
  · cases e
def gAbs : List D → Option D
  | [.int i] => some (.int (if i < 0 then -i else i))
  | _ => none
theorem cd_abs : CallD K mg (fun xs H Q => ∃ i, xs = [.int i] ∧ Q (.int (if i < 0 then -i else i)) H) gAbs := by
  intro G H vs ds d Q i r e k
  unfold gAbs at e
  split at e
  · cases e
    obtain ⟨v, rfl, r1⟩ := drs1 r
    rw [dr_int r1]
    exact ⟨_, rfl, k _ G H (Gr.refl i) (is_int _)⟩
  · cases e
def gMax2 : List D → Option D
  | [.int i, .int j] => some (.int (if j > i then j else i))
  | _ => none
def gMin2 : List D → Option D
  | [.int i, .int j] => some (.int (if j < i then j else i))
  | _ => none
theorem cd_max2 : CallD K mg (fun xs H Q => ∃ i j, xs = [.int i, .int j] ∧ Q (.int (if j > i then j else i)) H) gMax2 := by
  intro G H vs ds d Q i r e k
  unfold gMax2 at e
  split at e
  · cases e
    obtain ⟨v, u, rfl, r1, r2⟩ := drs2 r
    rw [dr_int r1, dr_int r2]
    exact ⟨_, _, rfl, k _ G H (Gr.refl i) (is_int _)⟩
  · cases e
theorem cd_min2 : CallD K mg (fun xs H Q => ∃ i j, xs = [.int i, .int j] ∧ Q (.int (if j < i then j else i)) H) gMin2 := by
  intro G H vs ds d Q i r e k
  unfold gMin2 at e
  split at e
  · cases e
    obtain ⟨v, u, rfl, r1, r2⟩ := drs2 r
    rw [dr_int r1, dr_int r2]
    exact ⟨_, _, rfl, k _ G H (Gr.refl i) (is_int _)⟩
  · cases e
def gInt : List D → Option D
  | [.int i] => some (.int i)
  | [.bl b] => some (.int (if b then 1 else 0))
  | _ => none
theorem cd_int : CallD K mg (fun xs H Q => (∃ i, xs = [.int i] ∧ Q (.int i) H) ∨ ∃ k, xs = [.bl k] ∧ Q (.int (if k then 1 else 0)) H) gInt := by
  intro G H vs ds d Q i r e k
  unfold gInt at e
  split at e
  · cases e
    obtain ⟨v, rfl, r1⟩ := drs1 r
    rw [dr_int r1]
    exact .inl ⟨_, rfl, k _ G H (Gr.refl i) (is_int _)⟩
  · cases e
    obtain ⟨v, rfl, r1⟩ := drs1 r
    rw [dr_bl r1]
    exact .inr ⟨_, rfl, k _ G H (Gr.refl i) (is_int _)⟩
  · cases e
def gList : List D → Option D
  | [.lst ds] => some (.lst ds)
  | [.tup ds] => some (.lst ds)
  | _ => none
theorem cd_list : CallD K mg (fun xs H Q => ∃ p ys, xs = [.ref p] ∧ (SqL K H p ys ∨ SqT K H p ys) ∧ ∀ l, H l = none → Q (.ref l) (upd H l (.lst ys))) gList := by
  intro G H vs ds d Q i r e k
  unfold gList at e
  split at e
  · cases e
    obtain ⟨v, rfl, r1⟩ := drs1 r
    rw [DR] at r1
    obtain ⟨a, xs, rfl, s, q⟩ := r1
    refine ⟨a, xs, rfl, .inl (.of (i.lst s)), fun l hl => ?_⟩
    have gr := Gr.alloc (o := .lst xs) i hl
    refine k _ _ _ gr ?_
    rw [DR]
    exact ⟨l, xs, rfl, upd_same, q.mono gr.sub⟩
  · cases e
    obtain ⟨v, rfl, r1⟩ := drs1 r
    rw [DR] at r1
    obtain ⟨a, xs, rfl, s, q⟩ := r1
    refine ⟨a, xs, rfl, .inr (i.tup s), fun l hl => ?_⟩
    have gr := Gr.alloc (o := .lst xs) i hl
    refine k _ _ _ gr ?_
    rw [DR]
    exact ⟨l, xs, rfl, upd_same, q.mono gr.sub⟩
  · cases e
def gTuple : List D → Option D
  | [.lst ds] => some (.tup ds)
  | [.tup ds] => some (.tup ds)
  | _ => none
theorem cd_tuple : CallD K mg (fun xs H Q => ∃ p ys, xs = [.ref p] ∧ ((SqL K H p ys ∧ ∀ l, H l = none → Q (.ref l) (upd H l (.tup ys))) ∨ (SqT K H p ys ∧ Q (.ref p) H))) gTuple := by
  intro G H vs ds d Q i r e k
  unfold gTuple at e
  split at e
  · cases e
    obtain ⟨v, rfl, r1⟩ := drs1 r
    rw [DR] at r1
    obtain ⟨a, xs, rfl, s, q⟩ := r1
    refine ⟨a, xs, rfl, .inl ⟨.of (i.lst s), fun l hl => ?_⟩⟩
    have gr := Gr.alloc (o := .tup xs) i hl
    refine k _ _ _ gr ?_
    rw [DR]
    exact ⟨l, xs, rfl, .of upd_same, q.mono gr.sub⟩
  · cases e
    obtain ⟨v, rfl, r1⟩ := drs1 r
    have r2 := r1
    rw [DR] at r1
    obtain ⟨a, xs, rfl, s, q⟩ := r1
    exact ⟨a, xs, rfl, .inr ⟨i.tup s, k _ G H (Gr.refl i) r2⟩⟩
  · cases e
/-! isinstance of built-in types -/
def tyN : D → Option String
  | .non => some "NoneType"
  | .bl _ => some "bool"
  | .int _ => some "int"
  | .str _ => some "str"
  | .tup _ => some "tuple"
  | .lst _ => some "list"
  | .dct _ => some "dict"
  | .scr _ => some "list"
  | _ => none
theorem tyN_is {d : D} {v : V} {n : String} (i : In G H) (h : tyN d = some n) (r : DR K mg G d v) : TyX K H v (.type n) := by
  cases d with
  | non => cases h; rw [DR] at r; subst r; exact .base .non
  | bl b => cases h; rw [DR] at r; subst r; exact .base (.bl b)
  | int b => cases h; rw [DR] at r; subst r; exact .base (.int b)
  | str b => cases h; rw [DR] at r; subst r; exact .base (.str b)
  | tup ds =>
    cases h
    rw [DR] at r
    obtain ⟨a, xs, rfl, s, q⟩ := r
    rcases i.tup s with (z | ⟨o, z⟩) | ⟨o, its, n, z1, z2, _⟩
    · exact .base (.tup z)
    · exact .fTuple z
    · exact .kTuple z1 z2
  | lst ds =>
    cases h
    rw [DR] at r
    obtain ⟨a, xs, rfl, s, q⟩ := r
    exact .base (.lst (i.lst s))
  | dct kvs =>
    cases h
    rw [DR] at r
    obtain ⟨a, xs, rfl, s, q⟩ := r
    rcases i.dk s with z | ⟨o, z⟩
    · exact .base (.dK z)
    · exact .fDict z
  | scr ns =>
    cases h
    rw [DR] at r
    obtain ⟨a, rfl, s⟩ := r
    rcases i.scr s with ⟨o, z⟩ | ⟨o, its, n, z1, z2, _⟩
    · exact .base (.frz z)
    · exact .kList z1 z2
  | ins _ _ => cases h
  | cls _ => cases h
  | ty _ => cases h
def gIsi : List D → Option D
  | [d, .ty n] => (tyN d).bind fun a => (kitB a n).map D.bl
  | _ => none
theorem cd_isi : CallD K mg (rIsi K) gIsi := by
  intro G H vs ds d Q i r e k
  unfold gIsi at e
  split at e
  · rename_i x n
    cases h : tyN x with
    | none => rw [h] at e; cases e
    | some a =>
      rw [h] at e
      have e : (kitB a n).map D.bl = some d := e
      cases h2 : kitB a n with
      | none => rw [h2] at e; cases e
      | some b =>
        rw [h2] at e
        cases e
        obtain ⟨v, u, rfl, r1, r2⟩ := drs2 r
        rw [DR] at r2
        subst r2
        exact ⟨v, .ty n, .type a, .type n, b, rfl, .ty n, tyN_is i h r1, kit_ty h2, k _ G H (Gr.refl i) (is_bl _)⟩
  · cases e
end
section
variable {X : Cx}
/-- a built-in class's name -/
theorem de_tyName {x : Str} {n : String} {pos : Pos} (hg : Gl X x) (hm : X.mg x = none) (hv : bootBuiltins x = some (.type n)) (hn : x ≠ "__name__" := by decide) (hd : (x == ("__debug__" : Str)) = false := by decide) : DE X (.Name x pos) (mC (.ty n)) :=
  de_of_c (v := .ty n) (pe_bltn hg hm hv (by rfl) hn hd) fun G => by rw [DR]
/-! ### repr -/
def rRepr (K : PySem.W.Frag) : List V → Hp → VK → Prop := fun vs H Q => ∃ v d, vs = [v] ∧ Dp K H v d ∧ d.showable = true ∧ d.depth ≤ 60 ∧ d.shown.length ≤ sizeLine ∧ Q (.str d.shown) H
theorem noDict : ∀ {K : PySem.W.Frag} {H : Hp} {v : V} {d : PyData}, Dp K H v d → d.hasDict = false := by
  intro K H v d h
  exact Dp.rec (motive_1 := fun v d _ => d.hasDict = false) (motive_2 := fun vs ds _ => PyData.hasDictAll ds = false) (by simp only [PyData.hasDict]) (fun b => by simp only [PyData.hasDict]) (fun b => by simp only [PyData.hasDict]) (fun b => by simp only [PyData.hasDict])
    (fun _ _ h => by simp only [PyData.hasDict]; exact h) (fun _ _ h => by simp only [PyData.hasDict]; exact h) (by simp only [PyData.hasDictAll]) (fun _ _ h1 h2 => by simp only [PyData.hasDictAll, h1, h2, Bool.or_self]) h
theorem cr_repr (hq : Quiet X.A) (hu : X.A.units + 64 < cLine) : CallR X (.builtin "repr") (rRepr X.K) := by
  intro pins s σ H vs us Q I r h
  obtain ⟨v, d, rfl, dp, hs, hd, hz, q⟩ := h
  cases r with
  | cons rv rn =>
    rename_i u us'
    cases rn
    obtain ⟨as, rd⟩ := Dp.reads I d v u dp rv
    have nd := noDict dp
    have key : ∀ a, u = .ref a → wpAny (model X.prog X.w) X.A (call (.builtin "repr") [u]) (EP X pins σ Q) X.xe s := fun a e => by
      subst e
      refine repr_of_reads' rd hs (fun z => by rw [nd] at z; cases z) hq (by omega) (fun _ _ e => e) (fun h' t tk hk => ?_) hz
      exact ⟨.str d.shown, H, I.kept (t' := tk) hk, ⟨_, rfl⟩, q⟩
    cases v with
    | non =>
      cases rv
      cases dp
      exact P.repr_of_none ⟨.str _, H, I.tok _, ⟨_, rfl⟩, by simpa only [PyData.shown] using q⟩
    | bl b =>
      cases rv
      cases dp
      exact P.repr_of_bool ⟨.str _, H, I.tok _, ⟨_, rfl⟩, by simpa only [PyData.shown] using q⟩
    | int b =>
      obtain ⟨t, rfl⟩ := rv
      cases dp
      exact P.repr_of_int (by simpa only [PyData.showable, decide_eq_true_eq] using hs) ⟨.str _, H, I.tok _, ⟨_, rfl⟩, by simpa only [PyData.shown] using q⟩
    | str b =>
      obtain ⟨t, rfl⟩ := rv
      cases dp
      exact P.repr_of_str ⟨.str _, H, I.tok _, ⟨_, rfl⟩, by simpa only [PyData.shown] using q⟩ (by simpa only [PyData.shown] using hz)
    | ref a => exact key a rv
    | byt b => cases dp
    | flt b => cases dp
    | ty b => cases dp
def okRepr (d : D) : Bool := pl d && (toPy d).showable && decide ((toPy d).depth ≤ 60) && small (toPy d).shown.length
def gRepr : List D → Option D
  | [d] => if okRepr d then some (.str (toPy d).shown) else none
  | _ => none
theorem cd_repr {K : PySem.W.Frag} {mg : Str → Option Value} : CallD K mg (rRepr K) gRepr := by
  intro G H vs ds d Q i r e k
  unfold gRepr at e
  split at e
  · rename_i x
    split at e
    · rename_i h
      cases e
      unfold okRepr at h
      simp only [Bool.and_eq_true] at h
      obtain ⟨v, rfl, r1⟩ := drs1 r
      exact ⟨v, toPy x, rfl, r1.dp i _ _ h.1.1.1, h.1.1.2, of_decide_eq_true h.1.2, of_decide_eq_true h.2, k _ G H (Gr.refl i) (is_str _)⟩
    · cases e
  · cases e
/-! ### slices -/
def tMO (K : PySem.W.Frag) (mg : Str → Option Value) (m : M (Option Int)) : TO := fun σ H Q => W K mg [] m σ H fun o σ' _ H' => σ' = σ → Q o H'
structure DO (X : Cx) (e : Option Expr) (m : M (Option Int)) : Prop where
  po : PO X e (tMO X.K X.mg m)
  pat : ∀ S d S', m S = some (d, S') → Pat S S'
theorem PO.imp {e : Option Expr} {t u : TO} (h : PO X e t) (f : ∀ σ H Q, u σ H Q → t σ H Q) : PO X e u := ⟨fun pins s σ H Q I q => h.run pins s σ H Q I (f σ H Q q)⟩
theorem do_none : DO X none (mPure none) := by
  refine ⟨PO.imp po_none fun σ H Q q => ?_, pat_pure⟩
  obtain ⟨G, _, _, f⟩ := W.pure q
  exact f rfl
def asI : D → Option (Option Int)
  | .int i => some (some i)
  | _ => none
def mPart (m : M D) : M (Option Int) := mBind m fun d => mOpt (asI d)
theorem do_some {e : Expr} {m : M D} (h : DE X e m) : DO X (some e) (mPart m) := by
  refine ⟨PO.imp (po_some h.pe) fun σ H Q q => ?_, pat_bind h.pat fun _ => pat_opt⟩
  refine (W.bind q).mono fun v H1 ⟨d, w1⟩ => ?_
  obtain ⟨B, G, S, d', S', i, rl, c, ev, k⟩ := w1
  obtain ⟨e1, e2⟩ := mOpt_some ev
  subst e2
  cases d with
  | int j =>
    cases e1
    have r := dr_int (c (.int j, v) (by simp))
    exact ⟨j, r, k σ G H1 (NxS.refl i rl) rfl⟩
  | _ => cases e1
def cutD (xs : List D) (lo hi : Option Int) : List D := (xs.drop (HT.sIx xs.length 0 lo)).take (HT.sIx xs.length xs.length hi - HT.sIx xs.length 0 lo)
theorem DRs.drop {K : PySem.W.Frag} {mg : Str → Option Value} {G : Hp} : ∀ {ds : List D} {vs : List V} (n : Nat), DRs K mg G ds vs → DRs K mg G (ds.drop n) (vs.drop n)
  | ds, vs, 0, r => by simpa using r
  | [], vs, n + 1, r => by rw [DRs] at r; subst r; simp only [List.drop_nil]; exact .nil
  | d :: ds, vs, n + 1, r => by
    rw [DRs] at r
    obtain ⟨v, ws, rfl, r1, r2⟩ := r
    exact DRs.drop n r2
theorem DRs.take {K : PySem.W.Frag} {mg : Str → Option Value} {G : Hp} : ∀ {ds : List D} {vs : List V} (n : Nat), DRs K mg G ds vs → DRs K mg G (ds.take n) (vs.take n)
  | ds, vs, 0, r => by simp only [List.take_zero]; exact .nil
  | [], vs, n + 1, r => by rw [DRs] at r; subst r; simp only [List.take_nil]; exact .nil
  | d :: ds, vs, n + 1, r => by
    rw [DRs] at r
    obtain ⟨v, ws, rfl, r1, r2⟩ := r
    exact .cons r1 (DRs.take n r2)
theorem DRs.cut {K : PySem.W.Frag} {mg : Str → Option Value} {G : Hp} {ds : List D} {vs : List V} (r : DRs K mg G ds vs) (lo hi : Option Int) : DRs K mg G (cutD ds lo hi) (cutV vs lo hi) := by
  unfold cutD cutV
  rw [r.length]
  exact (r.drop _).take _
def gSl (d : D) (lo hi : Option Int) : Option D := match d with
  | .str s => if small s.length then some (.str (cutS s lo hi)) else none
  | .lst ds => some (.lst (cutD ds lo hi))
  | .tup ds => some (.tup (cutD ds lo hi))
  | _ => none
def mSl (m : M D) (lo hi : M (Option Int)) : M D := mBind m fun d => mBind lo fun l => mBind hi fun h => mOpt (gSl d l h)
theorem W.bindO {K : PySem.W.Frag} {mg : Str → Option Value} {α : Type} {F : α → L2.St → Hp → Hp → Prop} {cs : List (D × V)} {σ : L2.St} {H : Hp} {ma : M (Option Int)} {f : Option Int → M α} (h : W K mg cs (mBind ma f) σ H F) : tMO K mg ma σ H fun b H1 => W K mg cs (f b) σ H1 F := by
  obtain ⟨B, G, S, r, S', a, b, c, e, k⟩ := h
  obtain ⟨d, S1, e1, e2⟩ := mBind_some e
  refine ⟨B, G, S, d, S1, a, b, no_cs, e1, fun σ' G1 H1 n es => ?_⟩
  subst es
  exact ⟨B, G1, S1, r, S', n.inn, n.rel, fun x hx => (c x hx).mono n.sub, e2, fun σ2 G2 H2 n2 => k σ2 G2 H2 (n.trans n2)⟩
theorem tMO.mono {K : PySem.W.Frag} {mg : Str → Option Value} {σ : L2.St} {H : Hp} {m : M (Option Int)} {Q Q' : Option Int → Hp → Prop} (h : tMO K mg m σ H Q) (f : ∀ v H, Q v H → Q' v H) : tMO K mg m σ H Q' := by
  obtain ⟨B, G, S, r, S', a, b, c, d, k⟩ := h
  exact ⟨B, G, S, r, S', a, b, c, d, fun σ' G' H' n e => f _ _ (k σ' G' H' n e)⟩
theorem de_sl {e : Expr} {lo hi : Option Expr} {m : M D} {ml mh : M (Option Int)} {p2 pos : Pos} (h : DE X e m) (hl : DO X lo ml) (hh : DO X hi mh) : DE X (.Subscript e (.Slice lo hi none p2) pos) (mSl m ml mh) := by
  refine ⟨PE.imp (pe_slice (sl_str.or (sl_list.or sl_tupA)) h.pe hl.po hh.po) fun σ H Q q => ?_, pat_bind h.pat fun _ => pat_bind hl.pat fun _ => pat_bind hh.pat fun _ => pat_opt⟩
  refine (W.bind q).mono fun v H1 ⟨d, w1⟩ => (W.bindO w1).mono fun l H2 w2 => (W.bindO w2).mono fun u H3 w3 => ?_
  obtain ⟨B, G, S, d', S', i, rl, c, ev, k⟩ := w3
  obtain ⟨e1, e2⟩ := mOpt_some ev
  subst e2
  have r := c (d, v) (by simp)
  unfold gSl at e1
  split at e1
  · split at e1
    · rename_i s hs
      cases e1
      exact .inl ⟨s, dr_str r, of_decide_eq_true hs, k σ G H3 (NxS.refl i rl) rfl _ (is_str _)⟩
    · cases e1
  · cases e1
    have r' := r
    rw [DR] at r
    obtain ⟨a, xs, rfl, s, qq⟩ := r
    refine .inr (.inl ⟨a, xs, rfl, .of (i.lst s), fun p hp => ?_⟩)
    have gr := Gr.alloc (o := .lst (cutV xs l u)) i hp
    refine k σ _ _ (gr.nx rl) rfl _ ?_
    rw [DR]
    exact ⟨p, _, rfl, upd_same, (qq.cut l u).mono gr.sub⟩
  · cases e1
    have r' := r
    rw [DR] at r
    obtain ⟨a, xs, rfl, s, qq⟩ := r
    refine .inr (.inr ⟨a, xs, rfl, i.tup s, fun z => ?_, fun _ p hp => ?_⟩)
    · refine k σ G H3 (NxS.refl i rl) rfl _ ?_
      rw [DR]
      refine ⟨a, xs, rfl, s, ?_⟩
      have e := qq.cut l u
      unfold cutV at e
      rw [z.1, z.2] at e
      simpa using e
    · have gr := Gr.alloc (o := .tup (cutV xs l u)) i hp
      refine k σ _ _ (gr.nx rl) rfl _ ?_
      rw [DR]
      exact ⟨p, _, rfl, .of upd_same, (qq.cut l u).mono gr.sub⟩
  · cases e1
/-! ### an item of our own list, stored, read -/
def mIxO (j : Nat) (mi : M D) : M D := mBind mi fun i S => match own1 S j, i with
  | some (.lst ds), .int k => (match atI ds k with
    | some d => some (d, S)
    | none => none)
  | _, _ => none
theorem de_ixO {y : Str} {p1 pos : Pos} {b : Expr} {j : Nat} {mi : M D} (hv : PE X (.Name y p1) (tVar j)) (hi : DE X b mi) (hs : PlainIx b := by exact fun _ _ => rfl) : DE X (.Subscript (.Name y p1) b pos) (mIxO j mi) := by
  refine ⟨PE.imp (pe_ix ix_list hv hi.pe hs) fun σ H Q q => ?_, pat_bind hi.pat fun i S d S' h => ?_⟩
  · obtain ⟨B, G, S, d', S', i0, rl, c, ev, k⟩ := q
    obtain ⟨di, S1, e1, e2⟩ := mBind_some ev
    split at e2
    · rename_i ds kk eo
      split at e2
      · rename_i d0 ea
        cases e2
        have h1 := own1_hs eo
        obtain ⟨c2, h0⟩ := (hi.pat _ _ _ e1).hs h1
        obtain ⟨a, ea1, _⟩ := rl.ow j c2 h0
        refine ⟨.ref a, ea1, B, G, S, _, _, i0, rl, no_cs, e1, fun σ' G1 H1 n1 es v qv => ?_⟩
        subst es
        obtain ⟨a', ea', g1, o1⟩ := n1.rel.ow j _ h1
        rw [ea1] at ea'
        cases ea'
        obtain ⟨xs, hx, rx⟩ := o1
        obtain ⟨w, hw, rw'⟩ := rx.atI ea
        exact ⟨a, xs, kk, w, rfl, dr_int qv, .of hx, hw, k _ _ _ n1 rfl w rw'⟩
      · cases e2
    · cases e2
  · split at h
    · split at h
      · cases h; exact Pat.refl _
      · cases h
    · cases h
def mStoreO (j : Nat) (me mi : M D) : M Out := mBind me fun d => mBind mi fun i S => match own1 S j, i with
  | some (.lst ds), .int k => (match ixN ds.length k with
    | some n => some (.nx, putO S j (.lst (ds.set n d)))
    | none => none)
  | _, _ => none
theorem DRs.set {K : PySem.W.Frag} {mg : Str → Option Value} {G : Hp} {d : D} {v : V} (q : DR K mg G d v) : ∀ {ds : List D} {vs : List V} (n : Nat), DRs K mg G ds vs → DRs K mg G (ds.set n d) (vs.set n v)
  | [], vs, n, r => by rw [DRs] at r; subst r; exact .nil
  | c :: ds, vs, 0, r => by
    rw [DRs] at r
    obtain ⟨u, ws, rfl, r1, r2⟩ := r
    exact .cons q r2
  | c :: ds, vs, n + 1, r => by
    rw [DRs] at r
    obtain ⟨u, ws, rfl, r1, r2⟩ := r
    exact .cons r1 (DRs.set q n r2)
/-- a change of our own list alone -/
theorem GrB.write {K : PySem.W.Frag} {G H : Hp} {p : Addr} {o : HO} (i : In G H) (hg : G p = none) : GrB p G H G (upd H p o) :=
  ⟨Sub.refl G, fun _ _ e => .inl e, fun a u e => by rw [upd_ne (ne_of_none e hg)]; exact i a u e, fun a u ha e => by rw [upd_ne ha]; exact e, hg⟩
theorem ds_storeO {y : Str} {p1 p2 pos : Pos} {b e : Expr} {j : Nat} {me mi : M D} (he : DE X e me) (hv : PE X (.Name y p1) (tVar j)) (hi : DE X b mi) (hs : swapsWithSole [.Subscript (.Name y p1) b p2] e pos.line X.env = pure false := by rfl)
    (hw : swappedStores [.Subscript (.Name y p1) b p2] e X.env = pure none := by rfl) (h1 : (assignEach [.Subscript (.Name y p1) b p2] X.env).map (·.2) = [assign (.Subscript (.Name y p1) b p2) X.env] := by rfl)
    (ha : ∀ v, assign (.Subscript (.Name y p1) b p2) X.env v = (do
      let ov ← holding [v] (eval (.Name y p1) X.env)
      let iv ← holding [v, ov] (eval b X.env)
      standAt p2
      holding [v, ov, iv] (setItem ov iv v)
      release [v, ov, iv] []) := by intro _; rfl) : DS X (.Assign [.Subscript (.Name y p1) b p2] e pos) (mStoreO j me mi) := by
  refine ⟨PS.imp (ps_asg he.pe (pg_sub hv hi.pe set_list ha) hs hw h1) fun D0 σ H q => ?_⟩
  refine (W.bind q).mono fun v H1 ⟨d, w1⟩ => ?_
  obtain ⟨B, G, S, r, S', i0, rl, c, ev, k⟩ := w1
  obtain ⟨di, S1, e1, e2⟩ := mBind_some ev
  split at e2
  · rename_i ds kk eo
    split at e2
    · rename_i n en
      cases e2
      have h1 := own1_hs eo
      obtain ⟨c2, h0⟩ := (hi.pat _ _ _ e1).hs h1
      obtain ⟨a, ea1, _⟩ := rl.ow j c2 h0
      refine ⟨.ref a, ea1, B, G, S, _, _, i0, rl, no_cs, e1, fun σ' G1 H2 n1 es iv qv => ?_⟩
      subst es
      obtain ⟨a', ea', g1, o1⟩ := n1.rel.ow j _ h1
      rw [ea1] at ea'
      cases ea'
      obtain ⟨xs, hx, rx⟩ := o1
      refine ⟨a, xs, kk, n, rfl, dr_int qv, hx, by rw [rx.length]; exact en, ?_⟩
      have gb := GrB.write (K := X.K) (o := .lst (xs.set n v)) n1.inn g1
      exact k _ _ _ (n1.trans (gb.nx n1.rel h1 ea1 ⟨_, upd_same, rx.set ((c (d, v) (by simp)).mono n1.sub) n⟩))
    · cases e2
  · cases e2
end
end SK
namespace SK
open PySem PySem.Spec PyProof.Rows L2
/-! ### dict displays -/
def keyOf : D → Option Key
  | .int i => some (.inl i)
  | .str s => some (.inr s)
  | _ => none
def valD (kvs : List (Key × D)) (k : Key) : Option D := (kvs.find? fun kv => decide (kv.1 = k)).map (·.2)
def hasD (kvs : List (Key × D)) (k : Key) : Bool := kvs.any fun kv => decide (kv.1 = k)
def putD (kvs : List (Key × D)) (k : Key) (v : D) : List (Key × D) := if hasD kvs k then kvs.map (fun kv => if kv.1 = k then (kv.1, v) else kv) else kvs ++ [(k, v)]
def dropD (kvs : List (Key × D)) (k : Key) : List (Key × D) := kvs.filter fun kv => decide (kv.1 ≠ k)
def keysD : List (D × D) → Option (List (Key × D))
  | [] => some []
  | (a, b) :: r => match keyOf a, keysD r with
    | some k, some kvs => some ((k, b) :: kvs)
    | _, _ => none
def mergeD (kvs more : List (Key × D)) : List (Key × D) := more.foldl (fun acc kv => putD acc kv.1 kv.2) kvs
section
variable {K : PySem.W.Frag} {mg : Str → Option Value} {G : Hp}
theorem DRk.nil : DRk K mg G [] [] := by rw [DRk]
theorem DRk.cons {k : Key} {d : D} {v : V} {ds : List (Key × D)} {vs : List (Key × V)} (h : DR K mg G d v) (r : DRk K mg G ds vs) : DRk K mg G ((k, d) :: ds) ((k, v) :: vs) := by
  rw [DRk]
  exact ⟨v, vs, rfl, h, r⟩
theorem DRk.keys : ∀ {ds : List (Key × D)} {vs : List (Key × V)}, DRk K mg G ds vs → vs.map (·.1) = ds.map (·.1)
  | [], vs, r => by rw [DRk] at r; subst r; rfl
  | (k, d) :: ds, vs, r => by
    rw [DRk] at r
    obtain ⟨v, ws, rfl, r1, r2⟩ := r
    simp only [List.map_cons, DRk.keys r2]
theorem DRk.length {ds : List (Key × D)} {vs : List (Key × V)} (r : DRk K mg G ds vs) : vs.length = ds.length := by
  have h := congrArg List.length r.keys
  simpa using h
theorem DRk.append : ∀ {ds es : List (Key × D)} {vs ws : List (Key × V)}, DRk K mg G ds vs → DRk K mg G es ws → DRk K mg G (ds ++ es) (vs ++ ws)
  | [], es, vs, ws, r, s => by rw [DRk] at r; subst r; exact s
  | (k, d) :: ds, es, vs, ws, r, s => by
    rw [DRk] at r
    obtain ⟨v, us, rfl, r1, r2⟩ := r
    exact DRk.cons r1 (DRk.append r2 s)
theorem DRk.val : ∀ {ds : List (Key × D)} {vs : List (Key × V)} (k : Key), DRk K mg G ds vs → (valD ds k = none ∧ valV vs k = none) ∨ ∃ d v, valD ds k = some d ∧ valV vs k = some v ∧ DR K mg G d v
  | [], vs, k, r => by rw [DRk] at r; subst r; exact .inl ⟨rfl, rfl⟩
  | (j, d) :: ds, vs, k, r => by
    rw [DRk] at r
    obtain ⟨v, ws, rfl, r1, r2⟩ := r
    by_cases e : j = k
    · refine .inr ⟨d, v, ?_, valV_pos (p := (j, v)) e, r1⟩
      simp [valD, e]
    · have h1 : valD ((j, d) :: ds) k = valD ds k := by simp [valD, e]
      rw [h1, valV_neg (p := (j, v)) e]
      exact DRk.val k r2
theorem DRk.has {ds : List (Key × D)} {vs : List (Key × V)} (r : DRk K mg G ds vs) (k : Key) : (vs.any fun kv => decide (kv.1 = k)) = hasD ds k := by
  have h := r.keys
  have e : ∀ {β : Type} (l : List (Key × β)), (l.any fun kv => decide (kv.1 = k)) = (l.map (·.1)).any fun x => decide (x = k) := fun l => by rw [List.any_map]; rfl
  unfold hasD
  rw [e, e, h]
theorem DRk.repl {k : Key} {d : D} {v : V} (q : DR K mg G d v) : ∀ {ds : List (Key × D)} {vs : List (Key × V)}, DRk K mg G ds vs → DRk K mg G (ds.map fun kv => if kv.1 = k then (kv.1, d) else kv) (vs.map fun kv => if kv.1 = k then (kv.1, v) else kv)
  | [], vs, r => by rw [DRk] at r; subst r; exact .nil
  | (j, c) :: ds, vs, r => by
    rw [DRk] at r
    obtain ⟨u, ws, rfl, r1, r2⟩ := r
    rw [List.map_cons, List.map_cons]
    by_cases e : j = k
    · rw [if_pos e, if_pos e]; exact .cons q (DRk.repl q r2)
    · rw [if_neg e, if_neg e]; exact .cons r1 (DRk.repl q r2)
theorem DRk.put {ds : List (Key × D)} {vs : List (Key × V)} {k : Key} {d : D} {v : V} (q : DR K mg G d v) (r : DRk K mg G ds vs) : DRk K mg G (putD ds k d) (putK vs k v) := by
  unfold putD putK
  rw [r.has k]
  split
  · exact DRk.repl q r
  · exact r.append (.cons q .nil)
theorem DRk.merge : ∀ {more : List (Key × D)} {ms : List (Key × V)} {ds : List (Key × D)} {vs : List (Key × V)}, DRk K mg G more ms → DRk K mg G ds vs → DRk K mg G (mergeD ds more) (mergeK vs ms)
  | [], ms, ds, vs, r, s => by rw [DRk] at r; subst r; exact s
  | (k, d) :: more, ms, ds, vs, r, s => by
    rw [DRk] at r
    obtain ⟨v, ws, rfl, r1, r2⟩ := r
    show DRk K mg G (mergeD (putD ds k d) more) (mergeK (putK vs k v) ws)
    exact DRk.merge r2 (DRk.put r1 s)
end
def mPairs : List (M D × M D) → M (List (D × D))
  | [] => mPure []
  | (a, b) :: r => mBind a fun x => mBind b fun y => mBind (mPairs r) fun ps => mPure ((x, y) :: ps)
def DRp (K : PySem.W.Frag) (mg : Str → Option Value) (G : Hp) : List (D × D) → List (V × V) → Prop
  | [], ps => ps = []
  | (a, b) :: r, ps => ∃ x y qs, ps = (x, y) :: qs ∧ DR K mg G a x ∧ DR K mg G b y ∧ DRp K mg G r qs
theorem DRp.mono {K : PySem.W.Frag} {mg : Str → Option Value} {G G' : Hp} (h : Sub G G') : ∀ {ds : List (D × D)} {ps : List (V × V)}, DRp K mg G ds ps → DRp K mg G' ds ps
  | [], ps, r => r
  | (a, b) :: r, ps, q => by
    obtain ⟨x, y, qs, e, r1, r2, r3⟩ := q
    exact ⟨x, y, qs, e, r1.mono h, r2.mono h, DRp.mono h r3⟩
structure DPs (X : Cx) (pos : Pos) (keys : List (Option Expr)) (values : List Expr) (ms : List (M D × M D)) : Prop where
  pp : PPs X pos keys values (ms.map fun p => (tM X.K X.mg p.1, tM X.K X.mg p.2))
  pat : ∀ S d S', mPairs ms S = some (d, S') → Pat S S'
section
variable {X : Cx} {pos : Pos}
theorem dps_nil : DPs X pos [] [] [] := ⟨pps_nil, pat_pure⟩
theorem dps_cons {k v : Expr} {ks : List (Option Expr)} {vs : List Expr} {mk mv : M D} {ms : List (M D × M D)} (hk : DE X k mk) (hv : DE X v mv) (hr : DPs X pos ks vs ms) : DPs X pos (some k :: ks) (v :: vs) ((mk, mv) :: ms) :=
  ⟨pps_cons hk.pe hv.pe hr.pp, pat_bind hk.pat fun _ => pat_bind hv.pat fun _ => pat_bind hr.pat fun _ => pat_pure⟩
theorem tPairs_of {K : PySem.W.Frag} {mg : Str → Option Value} {B : List (Nat × Addr)} {σ : L2.St} : ∀ {ms : List (M D × M D)} {G H : Hp} {S S' : SS} {ds : List (D × D)} {Q : List (V × V) → Hp → Prop}, In G H → RelS K mg B G H σ S → mPairs ms S = some (ds, S') →
    (∀ ps G' H', NxS K mg B σ G H S σ G' H' S' → DRp K mg G' ds ps → Q ps H') → tPairs (ms.map fun p => (tM K mg p.1, tM K mg p.2)) σ H Q
  | [], G, H, S, S', ds, Q, i, rl, ev, k => by
    cases ev
    exact k [] G H (NxS.refl i rl) rfl
  | (a, b) :: r, G, H, S, S', ds, Q, i, rl, ev, k => by
    obtain ⟨x, S1, e1, ev⟩ := mBind_some ev
    obtain ⟨y, S2, e2, ev⟩ := mBind_some ev
    obtain ⟨ps, S3, e3, ev⟩ := mBind_some ev
    cases ev
    refine ⟨B, G, S, x, S1, i, rl, no_cs, e1, fun σ1 G1 H1 n1 es v q1 => ?_⟩
    subst es
    refine ⟨B, G1, S1, y, S2, n1.inn, n1.rel, no_cs, e2, fun σ2 G2 H2 n2 es u q2 => ?_⟩
    subst es
    exact tPairs_of n2.inn n2.rel e3 fun qs G3 H3 n3 q3 => k _ G3 H3 ((n1.trans n2).trans n3) ⟨v, u, qs, rfl, (q1.mono n2.sub).mono n3.sub, q2.mono n3.sub, q3⟩
def mDisp (ms : List (M D × M D)) : M D := mBind (mPairs ms) fun ps => mOpt ((keysD ps).map fun kvs => .dct (mergeD [] kvs))
theorem keysD_dr {K : PySem.W.Frag} {mg : Str → Option Value} {G : Hp} : ∀ {ps : List (D × D)} {qs : List (V × V)} {kvs : List (Key × D)}, keysD ps = some kvs → DRp K mg G ps qs → ∃ ks : List (Key × V), qs = ks.map (fun kv => (kV kv.1, kv.2)) ∧ DRk K mg G kvs ks ∧ ks.length = ps.length
  | [], qs, kvs, h, r => by cases h; cases r; exact ⟨[], rfl, .nil, rfl⟩
  | (a, b) :: ps, qs, kvs, h, r => by
    obtain ⟨x, y, rs, rfl, r1, r2, r3⟩ := r
    unfold keysD at h
    split at h
    · rename_i k l h1 h2
      cases h
      obtain ⟨ks, e1, e2, e3⟩ := keysD_dr h2 r3
      refine ⟨(k, y) :: ks, ?_, .cons r2 e2, by simp [e3]⟩
      have e : x = kV k := by
        cases a <;> first | (cases h1; rw [DR] at r1; exact r1) | cases h1
      rw [List.map_cons, e1, e]
    · cases h
theorem mPairs_len : ∀ {ms : List (M D × M D)} {S S' : SS} {ps : List (D × D)}, mPairs ms S = some (ps, S') → ps.length = ms.length
  | [], S, S', ps, h => by cases h; rfl
  | (a, b) :: r, S, S', ps, h => by
    obtain ⟨x, S1, e1, ev⟩ := mBind_some h
    obtain ⟨y, S2, e2, ev⟩ := mBind_some ev
    obtain ⟨qs, S3, e3, ev⟩ := mBind_some ev
    cases ev
    simp [mPairs_len e3]
theorem de_disp {keys : List (Option Expr)} {values : List Expr} {ms : List (M D × M D)} (h : DPs X pos keys values ms) (hall : keys.all (·.isSome) = true := by rfl) (hl : keys.length = values.length := by rfl) (h0 : keys ≠ [] := by simp) (h15 : keys.length ≤ 15 := by decide) (hm : ms.length ≤ 15 := by decide) :
    DE X (.Dict keys values pos) (mDisp ms) := by
  refine ⟨PE.imp (pe_disp h.pp hall hl h0 h15) fun σ H Q q => ?_, pat_bind h.pat fun _ => pat_opt⟩
  obtain ⟨B, G, S, d, S', i, rl, c, ev, k⟩ := q
  obtain ⟨ps, S1, e1, e2⟩ := mBind_some ev
  obtain ⟨e3, e4⟩ := mOpt_some e2
  subst e4
  cases e5 : keysD ps with
  | none => rw [e5] at e3; cases e3
  | some kvs =>
    rw [e5] at e3
    cases e3
    intro p hp
    have hg := i.none hp
    have gr := Gr.allocH (o := .dK []) i hp
    have na : ¬ OA σ S p := fun ⟨j, d2, z1, z2⟩ => by
      obtain ⟨p', e6, _, e7⟩ := rl.ow j d2 z1
      rw [z2] at e6
      cases e6
      obtain ⟨o, e8⟩ := e7.some_
      rw [hp] at e8
      cases e8
    have n0 := gr.nx rl
    refine tPairs_of n0.inn n0.rel e1 fun qs G' H' n1 r1 => ?_
    have hp1 := n1.kp p _ upd_same na
    have hg1 := n1.still upd_same hg na
    obtain ⟨ks, e6, e7, e8⟩ := keysD_dr e5 r1
    refine ⟨hp1, ks, e6, by rw [e8, mPairs_len e1]; exact hm, ?_⟩
    have na1 : ¬ OA σ S' p := fun z => na ((h.pat _ _ _ e1).oa z)
    have n2 := ((n0.trans n1).upd_ (o := .dK (mergeK [] ks)) hp hg1 na1).freeze hp hg1 upd_same na1
    refine k _ _ _ n2 rfl _ ?_
    rw [DR]
    exact ⟨p, _, rfl, upd_same, (DRk.merge e7 .nil).mono (Sub.new hg1)⟩
theorem de_dict0 : DE X (.Dict [] [] pos) (mC (.dct [])) := by
  refine ⟨PE.imp pe_dnewK fun σ H Q q => ?_, pat_pure⟩
  obtain ⟨B, G, S, d, S', i, rl, c, ev, k⟩ := q
  cases ev
  intro p hp
  have gr := Gr.alloc (o := .dK []) i hp
  refine k _ _ _ (gr.nx rl) rfl _ ?_
  rw [DR]
  exact ⟨p, _, rfl, upd_same, .nil⟩
/-! ### names at once: a, b = e, f and a, b, c = e, f, g -/
def mPar2 (i j : Nat) (ms : M (List D)) : M Out := mBind ms fun ds => match ds with
  | [a, b] => mBind (mSet i a) fun _ => mBind (mSet j b) fun _ => mPure .nx
  | _ => mNone
def mPar3 (i j l : Nat) (ms : M (List D)) : M Out := mBind ms fun ds => match ds with
  | [a, b, c] => mBind (mSet i a) fun _ => mBind (mSet j b) fun _ => mBind (mSet l c) fun _ => mPure .nx
  | _ => mNone
theorem mSet_some {i : Nat} {d : D} {s s' : SS} {u : Unit} (h : mSet i d s = some (u, s')) : free1 s i = true ∧ s' = s.set i (some (.sh d)) := by
  unfold mSet at h
  split at h
  · cases h; exact ⟨by assumption, rfl⟩
  · cases h
theorem ds_par2 {i j : Nat} {x y : Str} {a b : Expr} {ms : M (List D)} {px py pt : Pos} {kt k2 pt2} (hc : X.calm = true) (hN : X.N.Nodup) (hi : X.N[i]? = some x) (hj : X.N[j]? = some y) (hij : i ≠ j) (hx : X.env.scope.names.lookup x = some .local) (hy : X.env.scope.names.lookup y = some .local)
    (ha : DA X [a, b] ms) (hw : swappedStores [.Tuple [.Name x px, .Name y py] kt pt] (.Tuple [a, b] k2 pt2) X.env = pure (some [x, y])) (hs : swapsWithSole [.Tuple [.Name x px, .Name y py] kt pt] (.Tuple [a, b] k2 pt2) pos.line X.env = pure false := by rfl) :
    DS X (.Assign [.Tuple [.Name x px, .Name y py] kt pt] (.Tuple [a, b] k2 pt2) pos) (mPar2 i j ms) := by
  refine ⟨PS.imp (ps_par hc hN hi hj hij hx hy ha.pa hw hs) fun D0 σ H q => ?_⟩
  refine (W.bindA q).mono fun vs H1 ⟨ds, hl, w1⟩ => ?_
  split at w1
  · rename_i d1 d2
    match vs, hl with
    | [v1, v2], _ =>
      refine ⟨v1, v2, rfl, ?_⟩
      obtain ⟨B, G, S, r, S', i0, rl, c, ev, k⟩ := w1
      obtain ⟨_, S1, e1, ev⟩ := mBind_some ev
      obtain ⟨_, S2, e2, ev⟩ := mBind_some ev
      cases ev
      obtain ⟨f1, rfl⟩ := mSet_some e1
      obtain ⟨f2, rfl⟩ := mSet_some e2
      have n1 := nx_set i0 rl (c (d1, v1) (by simp)) f1
      have n2 := nx_set n1.inn n1.rel (c (d2, v2) (by simp)) f2
      exact k _ _ _ (n1.trans n2)
  · exact w1.noneE.elim
theorem ds_par3 {i j l : Nat} {x y z : Str} {a b c : Expr} {ms : M (List D)} {px py pz pt : Pos} {kt k2 pt2} (hc : X.calm = true) (hN : X.N.Nodup) (hi : X.N[i]? = some x) (hj : X.N[j]? = some y) (hl : X.N[l]? = some z) (hij : i ≠ j) (hil : i ≠ l) (hjl : j ≠ l)
    (hx : X.env.scope.names.lookup x = some .local) (hy : X.env.scope.names.lookup y = some .local) (hz : X.env.scope.names.lookup z = some .local) (ha : DA X [a, b, c] ms)
    (hw : swappedStores [.Tuple [.Name x px, .Name y py, .Name z pz] kt pt] (.Tuple [a, b, c] k2 pt2) X.env = pure (some [x, y, z])) (hs : swapsWithSole [.Tuple [.Name x px, .Name y py, .Name z pz] kt pt] (.Tuple [a, b, c] k2 pt2) pos.line X.env = pure false := by rfl) :
    DS X (.Assign [.Tuple [.Name x px, .Name y py, .Name z pz] kt pt] (.Tuple [a, b, c] k2 pt2) pos) (mPar3 i j l ms) := by
  refine ⟨PS.imp (ps_par3 hc hN hi hj hl hij hil hjl hx hy hz ha.pa hw hs) fun D0 σ H q => ?_⟩
  refine (W.bindA q).mono fun vs H1 ⟨ds, hlen, w1⟩ => ?_
  split at w1
  · rename_i d1 d2 d3
    match vs, hlen with
    | [v1, v2, v3], _ =>
      refine ⟨v1, v2, v3, rfl, ?_⟩
      obtain ⟨B, G, S, r, S', i0, rl, c, ev, k⟩ := w1
      obtain ⟨_, S1, e1, ev⟩ := mBind_some ev
      obtain ⟨_, S2, e2, ev⟩ := mBind_some ev
      obtain ⟨_, S3, e3, ev⟩ := mBind_some ev
      cases ev
      obtain ⟨f1, rfl⟩ := mSet_some e1
      obtain ⟨f2, rfl⟩ := mSet_some e2
      obtain ⟨f3, rfl⟩ := mSet_some e3
      have n1 := nx_set i0 rl (c (d1, v1) (by simp)) f1
      have n2 := nx_set n1.inn n1.rel (c (d2, v2) (by simp)) f2
      have n3 := nx_set n2.inn n2.rel (c (d3, v3) (by simp)) f3
      exact k _ _ _ ((n1.trans n2).trans n3)
  · exact w1.noneE.elim
/-! ### y = [..] -/
theorem ds_setLc {elt tg iter : Expr} {ifs : List Expr} {scope : Scope} {x y : Str} {i j : Nat} {pos py spos : Pos} {mi : M (List D)} {mt : M Bool} {me : M D} (hc : X.calm = true) (hN : X.N.Nodup) (hy : X.N[j]? = some y) (hyl : X.env.scope.names.lookup y = some .local)
    (hsw : swapsWith (.ListComp elt [⟨tg, iter, ifs, 0⟩] scope pos) (some (.Name y py)) spos.line X.env = pure true) (hi : DI X tg iter mi) (ok : BlkOk X.N X.env.scope scope [(x, i)])
    (hg : ∀ (s : Shared) (H : Hp) (C : Addr) (cl : List (Str × Addr)) (fp : List Addr), PG (X.blk s H scope (compEnvC scope cl C X.env) fp) tg (gName i))
    (ht : ∀ (s : Shared) (H : Hp) (C : Addr) (cl : List (Str × Addr)) (fp : List Addr), DTs (X.blk s H scope (compEnvC scope cl C X.env) fp) ifs mt)
    (he : ∀ (s : Shared) (H : Hp) (C : Addr) (cl : List (Str × Addr)) (fp : List Addr), DE (X.blk s H scope (compEnvC scope cl C X.env) fp) elt me) (hs : ∀ x, foldedSetIterable iter X.env x = pure x := by intro _; rfl) :
    DS X (.Assign [.Name y py] (.ListComp elt [⟨tg, iter, ifs, 0⟩] scope pos) spos) (mAsg (mLc i mi mt me) (mSet j)) := by
  have pt := (ht X.s_0 X.H_0 0 [] []).pat
  have pe := (he X.s_0 X.H_0 0 [] []).pat
  refine ⟨PS.imp (ps_setLc (own := [(x, i)]) (g := gName i) (tt := tMT X.K X.mg mt) (te := tM X.K X.mg me) hc hN hy hyl hsw hi.pi ok hg (fun s H C cl fp => (ht s H C cl fp).pt) (fun s H C cl fp => (he s H C cl fp).pe) hs) fun D0 σ H q => tLc_of pt pe ?_⟩
  refine (W.bind q).mono fun v H1 ⟨d, w1⟩ => ?_
  obtain ⟨B, G, S, r, S', a, b, c, ev, k⟩ := W.seq w1
  obtain ⟨f1, e1⟩ := mSet_some ev
  subst e1
  exact (k _ _ _ (nx_set a b (c (d, v) (by simp)) f1)).nx
end
end SK
namespace SK
open PySem PySem.Spec PyProof.Rows L2
/-! ### new objects that become our own -/
def tMF (K : PySem.W.Frag) (mg : Str → Option Value) (m : M D) : TE := fun σ H Q => ∃ B G S c S', In G H ∧ RelS K mg B G H σ S ∧ m S = some (c, S') ∧ ∀ p G' H', NxS K mg B σ G H S σ G' H' S' → H p = none → G' p = none → Own K mg G' H' c p → Q (.ref p) H'
structure DF (X : Cx) (e : Expr) (m : M D) : Prop where
  pe : PE X e (tMF X.K X.mg m)
  pat : ∀ S d S', m S = some (d, S') → Pat S S'
section
variable {K : PySem.W.Frag} {mg : Str → Option Value} {B : List (Nat × Addr)} {σ σ' : L2.St} {G G' H H' : Hp} {S S' : SS} {p : Addr}
theorem RelS.fresh (rl : RelS K mg B G H σ S) (hp : H p = none) : ¬ OA σ S p := fun ⟨j, d, z1, z2⟩ => by
  obtain ⟨q, e1, _, e2⟩ := rl.ow j d z1
  rw [z2] at e1
  cases e1
  obtain ⟨o, e3⟩ := e2.some_
  rw [hp] at e3
  cases e3
/-- what an object of ours holds, as the ghost heap's -/
theorem Own.dr {c : D} {o : HO} (w : Own K mg G H c p) (e : H p = some o) (hg : G p = none) : DR K mg (upd G p o) c (.ref p) := by
  have sb : Sub G (upd G p o) := Sub.new hg
  cases c with
  | lst ds =>
    obtain ⟨xs, e1, r⟩ := w
    rw [e] at e1
    cases e1
    rw [DR]
    exact ⟨p, xs, rfl, upd_same, r.mono sb⟩
  | dct kvs =>
    obtain ⟨xs, e1, r⟩ := w
    rw [e] at e1
    cases e1
    rw [DR]
    exact ⟨p, xs, rfl, upd_same, r.mono sb⟩
  | ins c fs =>
    obtain ⟨C, dx, ys, m, e1, r⟩ := w
    rw [e] at e1
    cases e1
    rw [DR]
    exact ⟨p, C, dx, ys, rfl, m, upd_same, r.mono sb⟩
  | _ => exact w.elim
end
section
variable {X : Cx} {e : Expr} {m : M D} {pos : Pos}
theorem df_lst {es : List Expr} {ms : M (List D)} (h : DA X es ms) : DF X (.List es pos) (mLst ms) := by
  refine ⟨PE.imp (pe_lst h.pa) fun σ H Q q => ?_, pat_bind h.pat fun x => pat_ite pat_pure pat_none⟩
  obtain ⟨B, G, S, c, S', i, rl, ev, k⟩ := q
  obtain ⟨ds, S1, e1, e2⟩ := mBind_some ev
  refine ⟨B, G, S, ds, S1, i, rl, no_cs, e1, fun σ' G1 H1 n1 es vs r => ?_⟩
  subst es
  split at e2
  · rename_i hs
    cases e2
    refine ⟨by rw [r.length]; exact of_decide_eq_true hs, fun p hp => ?_⟩
    have hp0 : H p = none := by
      cases w : H p with
      | none => rfl
      | some o =>
        obtain ⟨o', e⟩ := n1.some_ p o w
        rw [hp] at e
        cases e
    have hg := n1.inn.none hp
    exact k p G1 _ (n1.trans ((Gr.allocH n1.inn hp).nx n1.rel)) hp0 hg ⟨vs, upd_same, r⟩
  · cases e2
/-- at once shared -/
theorem de_F (h : DF X e m) : DE X e m := by
  refine ⟨PE.imp h.pe fun σ H Q q => ?_, h.pat⟩
  obtain ⟨B, G, S, c, S', i, rl, _, ev, k⟩ := q
  refine ⟨B, G, S, c, S', i, rl, ev, fun p G' H' n hp hg w => ?_⟩
  obtain ⟨o, e1⟩ := w.some_
  have na : ¬ OA σ S' p := fun z => rl.fresh hp ((h.pat _ _ _ ev).oa z)
  exact k σ _ H' (n.freeze hp hg e1 na) rfl _ (w.dr e1 hg)
def mOwn (i : Nat) (c : D) : M Unit := fun s => if free1 s i then some ((), s.set i (some (.ow c))) else none
theorem nx_own {K : PySem.W.Frag} {mg : Str → Option Value} {B : List (Nat × Addr)} {σ : L2.St} {G H : Hp} {S : SS} {p : Addr} {i : Nat} {c : D} (a : In G H) (r : RelS K mg B G H σ S) (hg : G p = none) (w : Own K mg G H c p) (na : ¬ OA σ S p) (f : free1 S i = true) :
    RelS K mg B G H (σ.set i (some (.ref p))) (S.set i (some (.ow c))) ∧ (∀ x, OA (σ.set i (some (.ref p))) (S.set i (some (.ow c))) x → OA σ S x ∨ x = p) := by
  have hl := free1_lt f
  have hl2 : i < σ.length := by rw [← r.len]; exact hl
  have hs : ∀ {j : Nat} {e : D}, Hs (S.set i (some (.ow c))) j e → (j = i ∧ e = c) ∨ (j ≠ i ∧ Hs S j e) := fun {j e} z => by
    by_cases hj : j = i
    · subst hj
      rcases z with z | z
      · rw [List.getElem?_set_self hl] at z; cases z; exact .inl ⟨rfl, rfl⟩
      · rw [List.getElem?_set_self hl] at z; cases z
    · refine .inr ⟨hj, ?_⟩
      rcases z with z | z
      · rw [List.getElem?_set_ne (Ne.symm hj)] at z; exact .inl z
      · rw [List.getElem?_set_ne (Ne.symm hj)] at z; exact .inr z
  refine ⟨⟨by rw [List.length_set, List.length_set, r.len], fun j e z => ?_, fun j e z => ?_, fun j k e e' q z1 z2 y1 y2 => ?_, fun j q hb => ?_⟩, fun x z => ?_⟩
  · by_cases hj : j = i
    · subst hj
      rw [List.getElem?_set_self hl] at z
      cases z
    · rw [List.getElem?_set_ne (Ne.symm hj)] at z ⊢
      exact r.sh j e z
  · rcases hs z with ⟨h1, h2⟩ | ⟨h1, h2⟩
    · subst h1 h2
      exact ⟨p, List.getElem?_set_self hl2, hg, w⟩
    · rw [List.getElem?_set_ne (Ne.symm h1)]
      exact r.ow j e h2
  · rcases hs z1 with ⟨h1, _⟩ | ⟨h1, h2⟩
    · rcases hs z2 with ⟨h3, _⟩ | ⟨h3, h4⟩
      · rw [h1, h3]
      · subst h1
        rw [List.getElem?_set_self hl2] at y1
        rw [List.getElem?_set_ne (Ne.symm h3)] at y2
        cases y1
        exact (na ⟨k, e', h4, y2⟩).elim
    · rcases hs z2 with ⟨h3, _⟩ | ⟨h3, h4⟩
      · subst h3
        rw [List.getElem?_set_self hl2] at y2
        rw [List.getElem?_set_ne (Ne.symm h1)] at y1
        cases y2
        exact (na ⟨j, e, h2, y1⟩).elim
      · rw [List.getElem?_set_ne (Ne.symm h1)] at y1
        rw [List.getElem?_set_ne (Ne.symm h3)] at y2
        exact r.dis j k e e' q h2 h4 y1 y2
  · obtain ⟨⟨e, z1⟩, z2⟩ := r.bw j q hb
    have hj : j ≠ i := by
      rintro rfl
      unfold free1 at f
      rw [z1] at f
      cases f
    rw [List.getElem?_set_ne (Ne.symm hj), List.getElem?_set_ne (Ne.symm hj)]
    exact ⟨⟨e, z1⟩, z2⟩
  · obtain ⟨j, e, z1, z2⟩ := z
    rcases hs z1 with ⟨h1, _⟩ | ⟨h1, h2⟩
    · subst h1
      rw [List.getElem?_set_self hl2] at z2
      cases z2
      exact .inr rfl
    · rw [List.getElem?_set_ne (Ne.symm h1)] at z2
      exact .inl ⟨j, e, h2, z2⟩
def mAsgO (m : M D) (i : Nat) : M Out := mBind m fun c => mBind (mOwn i c) fun _ => mPure .nx
theorem ds_setO {i : Nat} {x : Str} {pos' : Pos} (hN : X.N.Nodup) (hi : X.N[i]? = some x) (hx : Loc X.env.scope x) (he : DF X e m) (hs : swapsWith e (some (.Name x pos')) pos.line X.env = pure false := by rfl) (hf : X.fn x = true ∨ X.env.scope.names.lookup x = some .local := by first | exact .inl rfl | exact .inr rfl | assumption) :
    DS X (.Assign [.Name x pos'] e pos) (mAsgO m i) := by
  refine ⟨PS.imp (ps_set hN hi hx he.pe hs hf) fun D0 σ H q => ?_⟩
  obtain ⟨B, G, S, r, S', a, rl, _, ev, k⟩ := q
  obtain ⟨c, S1, e1, ev⟩ := mBind_some ev
  obtain ⟨_, S2, e2, ev⟩ := mBind_some ev
  cases ev
  unfold mOwn at e2
  split at e2
  · rename_i hfr
    cases e2
    refine ⟨B, G, S, c, S1, a, rl, e1, fun p G' H' n hp hg w => ?_⟩
    have na : ¬ OA σ S1 p := fun z => rl.fresh hp ((he.pat _ _ _ e1).oa z)
    obtain ⟨r2, oa2⟩ := nx_own n.inn n.rel hg w na hfr
    refine k _ G' H' ⟨n.sub, n.new, n.inn, n.kp, n.some_, fun x z => ?_, r2⟩
    rcases oa2 x z with z | z
    · exact n.oa x z
    · exact .inr (z ▸ hp)
  · cases e2
/-! ### a def that hands back a new object -/
/-- .. with the content c: the returned object is new and no one else's -/
def spF (K : PySem.W.Frag) (mg : Str → Option Value) (n : Nat) (f : List D → Option D) : Sp := fun vs H Q _ => ∃ G ds c, In G H ∧ DRs K mg G ds vs ∧ ds.length = n ∧ f ds = some c ∧ ∀ p G' H', Gr G H G' H' → H p = none → G' p = none → Own K mg G' H' c p → Q (.ref p) H'
theorem spF_len {n : Nat} {fn : List D → Option D} {K : PySem.W.Frag} {mg : Str → Option Value} {vs : List V} {H : Hp} {Q : VK} {E : XK} (h : spF K mg n fn vs H Q E) : vs.length = n := by
  obtain ⟨G, ds, d, _, r, e, _⟩ := h
  rw [r.length, e]
/-- the body's last word: return e, e a new object -/
def tMFS (K : PySem.W.Frag) (mg : Str → Option Value) (m : M D) : TS := fun D0 σ H => ∃ B G S c S', In G H ∧ RelS K mg B G H σ S ∧ m S = some (c, S') ∧ ∀ p σ' G' H', NxS K mg B σ G H S σ' G' H' S' → H p = none → G' p = none → Own K mg G' H' c p → D0.rt (.ref p) H'
structure DFs (X : Cx) (st : List Stmt) (m : M D) : Prop where
  ps : PSs X st (tMFS X.K X.mg m)
theorem dfs_ret (he : DF X e m) : DFs X [.Return (some e) pos] m := by
  refine ⟨PSs.imp (pss_one (ps_ret he.pe)) fun D0 σ H q => ?_⟩
  obtain ⟨B, G, S, c, S', a, rl, ev, k⟩ := q
  exact ⟨B, G, S, c, S', a, rl, ev, fun p G' H' n hp hg w => k p σ G' H' n hp hg w⟩
def mSeqF (a : M Out) (b : M D) : M D := mBind a fun r => match r with
  | .nx => b
  | _ => mNone
theorem dfs_cons {st : Stmt} {sts : List Stmt} {mt : M Out} (h1 : DS X st mt) (h2 : DFs X sts m) : DFs X (st :: sts) (mSeqF mt m) := by
  refine ⟨PSs.imp (pss_cons h1.ps h2.ps) fun D0 σ H q => ?_⟩
  obtain ⟨B, G, S, c, S', a, rl, ev, k⟩ := q
  obtain ⟨r, S1, e1, e2⟩ := mBind_some ev
  refine ⟨B, G, S, r, S1, a, rl, no_cs, e1, fun σ1 G1 H1 n => ?_⟩
  cases r with
  | nx =>
    refine ⟨B, G1, S1, c, S', n.inn, n.rel, e2, fun p σ2 G2 H2 n2 hp hg w => k p σ2 G2 H2 (n.trans n2) ?_ hg w⟩
    cases z : H p with
    | none => rfl
    | some o =>
      obtain ⟨o', e⟩ := n.some_ p o z
      rw [hp] at e
      cases e
  | _ => cases e2
/-- return x, x our own -/
def mRetO (i : Nat) : M D := fun S => match S[i]? with
  | some (some (.ow c)) => some (c, S)
  | _ => none
end
def runN (N : List Str) (m : M D) (ds : List D) : Option D := match m (startS N ds) with
  | some (c, _) => some c
  | none => none
section
variable {P : Program} {w : World} {K : PySem.W.Frag} {mg : Str → Option Value} {base : Heap} {k n : Nat} {f : Addr} {fd : FuncData} {N ps : List Str} {x qual : Str} {st : Stmt} {m : M D}
theorem fn_new (F : Fun K x qual st f fd) (Sc : FnScope N ps (defScope st)) (hn : ps.length = n)
    (h : ∀ (cd : Value) (A : Around) (outer : List Env) (s : Shared) (H : Hp) (E : XK), Room k (A.deeper (envOfC qual (defScope st) s.heap.objs.size f cd)) → Quiet A → DFs (cxOf CX0 P w K mg base N qual (defScope st) f cd A outer s H E).nox (defBody st) m) :
    FnG P w K mg base CX0 (k + 1) f fd ps (spF K mg n (runN N m)) := by
  refine FnG.body F Sc (fun vs H Q E q => by rw [spF_len q, hn]) fun cd A outer s H vs Q E hr hq q => ⟨_, PSs.nox (h cd A outer s H E hr hq).ps, ?_⟩
  obtain ⟨G, ds, d, i, r, hl, ev, kk⟩ := q
  unfold runN at ev
  split at ev
  · rename_i c S' e1
    cases ev
    have no : ∀ a, ¬ OA (L2.start N vs) (startS N ds) a := fun a ⟨j, d2, z1, _⟩ => startS_no z1
    refine ⟨[], G, _, _, S', i, rel_start r, e1, fun p σ' G' H' n hp hg w => kk p G' H' ⟨n.sub, fun a u e => ?_, n.inn, fun a u e => n.kp a u e (no a)⟩ hp hg w⟩
    rcases n.new a u e with z | z | z
    · exact .inl z
    · exact .inr z
    · exact (no a z).elim
  · cases ev
/-! ### a def as the others know it -/
structure Ok1 (P : Program) (w : World) (K : PySem.W.Frag) (mg : Str → Option Value) (base : Heap) (k : Nat) (x : Str) (ps : List Str) (sp : Sp) : Prop where
  ex : ∃ f fd, FnG P w K mg base CX0 k f fd ps sp ∧ mg x = some (.ref f) ∧ PySem.W.keepIn K (.ref f) = true ∧ Binds K fd ps []
theorem Ok1.weaken {x : Str} {sp sp' : Sp} (F : Ok1 P w K mg base k x ps sp) (h : ∀ vs H Q E, sp' vs H Q E → sp vs H Q E) : Ok1 P w K mg base k x ps sp' := by
  obtain ⟨f, fd, a, b, c, d⟩ := F.ex
  exact ⟨f, fd, a.weaken h, b, c, d⟩
end
section
variable {X : Cx} {x y : Str} {p p1 p2 pos : Pos} {a : Expr} {es : List Expr} {ps : List Str} {k n i : Nat} {ms : M (List D)}
theorem de_call1 {fn : List D → Option D} (F : Ok1 X.prog X.w X.K X.mg X.base k x ps (spP X.K X.mg n fn)) (hr : Room k X.A) (hq : Quiet X.A) (hg : Gl X x) (ha : DA X (a :: es) ms) (hn : (a :: es).length = n := by rfl)
    (hdb : (x == ("__debug__" : Str)) = false := by decide) (he : starEach (a :: es) X.env = (false, eval a X.env) :: starEach es X.env := by rfl) (hpl : (backTo pos (starEach es X.env)).any (·.1) = false := by rfl) :
    DE X (.Call (.Name x p) (a :: es) [] pos) (mCall fn ms) := by
  obtain ⟨f, fd, h1, h2, h3, h4⟩ := F.ex
  exact de_fn h1 hr hq hg h2 h3 h4 pass0 ha hn hdb he hpl
theorem de_call10 {fn : List D → Option D} (F : Ok1 X.prog X.w X.K X.mg X.base k x ps (spP X.K X.mg 0 fn)) (hr : Room k X.A) (hq : Quiet X.A) (hg : Gl X x) (hdb : (x == ("__debug__" : Str)) = false := by decide) :
    DE X (.Call (.Name x p) [] [] pos) (mCall fn mNil) := by
  obtain ⟨f, fd, h1, h2, h3, h4⟩ := F.ex
  exact de_fn0 h1 hr hq hg h2 h3 h4 pass0 hdb
theorem de_callB1 {fn : D → List D → Option (D × D)} (F : Ok1 X.prog X.w X.K X.mg X.base k x ps (spB X.K X.mg n fn)) (hr : Room k X.A) (hq : Quiet X.A) (hg : Gl X x) (hv : PE X (.Name y p1) (tVar i)) (ha : DA X es ms) (hn : es.length = n := by rfl)
    (hdb : (x == ("__debug__" : Str)) = false := by decide) (he : starEach (.Name y p1 :: es) X.env = (false, eval (.Name y p1) X.env) :: starEach es X.env := by rfl) (hpl : (backTo pos (starEach es X.env)).any (·.1) = false := by rfl) :
    DE X (.Call (.Name x p2) (.Name y p1 :: es) [] pos) (mFnB i fn ms) := by
  obtain ⟨f, fd, h1, h2, h3, h4⟩ := F.ex
  exact de_fnB h1 hr hq hg h2 h3 h4 pass0 hv ha hn hdb he hpl
theorem df_call1 {fn : List D → Option D} (F : Ok1 X.prog X.w X.K X.mg X.base k x ps (spF X.K X.mg n fn)) (hr : Room k X.A) (hq : Quiet X.A) (hg : Gl X x) (ha : DA X (a :: es) ms) (hn : (a :: es).length = n := by rfl)
    (hdb : (x == ("__debug__" : Str)) = false := by decide) (he : starEach (a :: es) X.env = (false, eval a X.env) :: starEach es X.env := by rfl) (hpl : (backTo pos (starEach es X.env)).any (·.1) = false := by rfl) :
    DF X (.Call (.Name x p) (a :: es) [] pos) (mCall fn ms) := by
  obtain ⟨f, fd, h1, h2, h3, h4⟩ := F.ex
  refine ⟨PE.imp (pe_callF (h1.answers hr hq h4 (E := E0) pass0) hg h2 h3 ha.pa hdb he hpl) fun σ H Q q => ?_, pat_bind ha.pat fun _ => pat_opt⟩
  obtain ⟨B, G, S, c, S', i, rl, ev, k⟩ := q
  obtain ⟨ds, S1, e1, e2⟩ := mBind_some ev
  obtain ⟨e3, e4⟩ := mOpt_some e2
  subst e4
  refine ⟨B, G, S, ds, S', i, rl, no_cs, e1, fun σ' G1 H1 n1 es vs r => ?_⟩
  subst es
  refine ⟨G1, ds, c, n1.inn, r, by rw [ha.len _ _ _ e1, hn], e3, fun p G' H' gr hp hg w => k p G' H' (n1.trans (gr.nx n1.rel)) ?_ hg w⟩
  cases z : H p with
  | none => rfl
  | some o =>
    obtain ⟨o', e⟩ := n1.some_ p o z
    rw [hp] at e
    cases e
end
end SK
namespace SK
open PySem PySem.Spec PyProof.Rows L2
/-! ### the law's own call -/
/-- the heap in hand at the call: the script, known, if it is no object of the module -/
def scriptH (a : Addr) (o : Obj) (xs : List V) : Hp := fun b => if b = a then some (.frz o (.lst xs)) else none
theorem scriptH_at {a : Addr} {o : Obj} {xs : List V} : scriptH a o xs a = some (.frz o (.lst xs)) := if_pos rfl
theorem scriptH_is {a b : Addr} {o : Obj} {xs : List V} {u : HO} (h : scriptH a o xs b = some u) : b = a ∧ u = .frz o (.lst xs) := by
  unfold scriptH at h
  split at h
  · cases h; exact ⟨by assumption, rfl⟩
  · cases h
section
variable {P : Program} {w : World} {K : PySem.W.Frag} {mg mb : Str → Option Value} {k : Nat} {fa a : Addr} {fd : FuncData} {x : Str} {sp : Sp} {s1 : Shared} {vs : List Value} {ns : List Int}
theorem law_run (KX : K.In s1.heap) (hns : s1.heap.Ns mainGlobals mg) (hb : s1.heap.Ns builtinsNs mb) (hbb : ∀ x : Str, x ≠ "__name__" → mb x = bootBuiltins x) (hlim : s1.heap.NoLimit) (hg : s1.gens = #[])
    (ha : s1.heap.get? a = some { cls := .type "list", data := .seq vs.toArray }) (hi : IntsAre vs ns) (hl : ns.length ≤ sizeLine) (hr : Room k callerA)
    (F : ∀ base : Heap, K.In base → base.Ns mainGlobals mg → FnG P w K mg base CX0 k fa fd [x] sp) (hbind : ∀ (s : Shared) (u : Value), BindsTo s fd ⟨[u], []⟩ [(x, u)])
    (hsp : ∀ H : Hp, SqS K H a (ns.map V.int) → sp [.ref a] H (fun v _ => v = .bl true) fun _ _ _ => False) :
    codeAny (model P w) callerA (.call (.ref fa) ⟨[.ref a], []⟩) (fun r s' => r = .ok (.ret (.bool true)) ∧ OldK s1.heap s'.heap ∧ s'.os = s1.os ∧ AllBare s'.gens) s1 := by
  have rv := vals_ints hi
  have lv := hi.length
  have all : ∀ H : Hp, SqS K H a (ns.map V.int) → HOk P w H s1.heap → (∀ b u, H b = some u → b = a ∧ K.lookup a = none ∧ ∃ o xs, u = .frz o (.lst xs)) →
      codeAny (model P w) callerA (.call (.ref fa) ⟨[.ref a], []⟩) (fun r s' => r = .ok (.ret (.bool true)) ∧ OldK s1.heap s'.heap ∧ s'.os = s1.os ∧ AllBare s'.gens) s1 := by
    intro H hS hok only
    have untr : ∀ {b : Addr} {o : Obj} {es : Array DictEntry} {ep : Nat}, s1.heap.get? b = some o → o.data = .dict es ep → H b = none := by
      intro b o es ep e1 e2
      cases q : H b with
      | none => rfl
      | some u =>
        obtain ⟨rfl, _⟩ := only b u q
        rw [ha] at e1
        cases e1
        cases (show Data.seq vs.toArray _ = Data.dict es ep from e2)
    have ns' : ∀ {b : Addr} {m : Str → Option Value}, s1.heap.Ns b m → (hidT s1.heap H).Ns b m := by
      rintro b m ⟨o, es, ep, e1, e2, r⟩
      exact ⟨o, es, ep, hidT_get e1 (untr e1 e2), e2, r⟩
    have kin : K.In (hidT s1.heap H) := by
      intro b o e
      refine hidT_get (KX b o e) ?_
      cases q : H b with
      | none => rfl
      | some u =>
        obtain ⟨rfl, z, _⟩ := only b u q
        rw [z] at e
        cases e
    obtain ⟨mc, c1, c2⟩ := hlim
    have md : Mod K mg (hidT s1.heap H) := ⟨kin, ns' hns, ⟨mb, ns' hb, hbb⟩, ⟨mc, ns' c1, c2⟩⟩
    have e0 : Env0 P w K mg (hidT s1.heap H) callerA [] s1 H := ⟨rfl, md, fun b o e => of_hidT e, Nat.le_of_eq (hidT_size _ _), trivial, (fun b z => by cases (show b ∈ ([] : List Addr) from z)), hok, .of_eq hg⟩
    have go := (F _ kin (ns' hns)).go callerA [] s1 H ⟨[.ref a], []⟩ [.ref a] [.ref a] _ _ hr rfl e0 (hbind s1 (.ref a)) (.cons rfl .nil) (hsp H hS)
    refine codeAny_mono go ?_
    intro r s' z
    cases r with
    | error e => exact z.elim
    | ok fl =>
      cases fl with
      | ret u =>
        obtain ⟨v, H', h1, h2, un, hok', h3, h4⟩ := z
        have h4 : v = .bl true := h4
        subst h4
        cases (show u = Value.bool true from h3)
        refine ⟨rfl, OldK.of_keep ?_, h1, h2⟩
        intro b o e
        cases q : H b with
        | none => exact un.keep b o e q (fun z => by cases (show b ∈ ([] : List Addr) from z)) (by simp)
        | some u =>
          obtain ⟨_, _, ob, xs, rfl⟩ := only b u q
          have q1 := (hok b _ q).1
          have q2 := (hok' b _ (un.frzs b ob _ q)).1
          rw [e] at q1
          cases q1
          exact q2
      | next => exact z.elim
      | brk => exact z.elim
      | cont => exact z.elim
  cases hk : K.lookup a with
  | some o =>
    have e := KX a o hk
    rw [ha] at e
    cases e
    refine all (fun _ => none) (.inr ⟨_, vs.toArray, _, hk, rfl, rfl, rfl, ?_, by simpa using rv⟩) (fun b u z => by cases (show (none : Option HO) = some u from z)) fun b u z => by cases (show (none : Option HO) = some u from z)
    rw [List.size_toArray, lv]
    exact hl
  | none =>
    refine all (scriptH a { cls := .type "list", data := .seq vs.toArray } (ns.map V.int)) (.inl ⟨_, scriptH_at⟩) ?_ ?_
    · intro b u z
      obtain ⟨rfl, rfl⟩ := scriptH_is z
      refine ⟨ha, ?_, vs, _, rv, ha⟩
      rw [List.length_map]
      exact hl
    · intro b u z
      obtain ⟨rfl, rfl⟩ := scriptH_is z
      exact ⟨rfl, hk, _, _, rfl⟩
end
theorem walk_end {l : PySem.W.OpenLaw} {n k : Nat} {q : Program} {loose : List Str} {XP : (Str → Option Value) → Heap → Prop} {YP : World → Heap → Prop} {d : DefRec} {K : Params → PySem.W.Frag} {x : Str} {fn : List D → Option D}
    (hn : l.most = some n) (hn2 : n ≤ sizeLine) (hdf : d.params.defaults = []) (hr : Room k callerA) (hY : ∀ (w : World) (h : Heap), YP w h → (K w.params).In h)
    (F : ∀ (w : World) (mg : Str → Option Value) (fa : Addr) (h : Heap), (K w.params).In h → h.Ns mainGlobals mg → mg d.name = some (.ref fa) →
      ∃ fd : FuncData, (∀ (s : Shared) (u : Value), BindsTo s fd ⟨[u], []⟩ [(x, u)]) ∧ ∀ base : Heap, (K w.params).In base → base.Ns mainGlobals mg → FnG l.prog w (K w.params) mg base CX0 k fa fd [x] (spP (K w.params) mg 1 fn))
    (hfn : ∀ ns : List Int, ns.length ≤ n → fn [.scr ns] = some (.bl true)) : PySem.W.WalkO q loose XP YP l.row.toRowW d [] (fun f vs => PySem.call f vs) := by
  refine Att.attach_call hn hdf ?_
  intro w s0 s1 mg mb fa o pm cd doc a vs ns Gd Y ho hd hcd hmg hobj hints hlen hg
  have KX := hY w _ Y
  obtain ⟨fd, hb, hF⟩ := F w mg fa _ KX Gd.T.g hmg
  refine law_run KX Gd.T.g Gd.T.b Gd.T.builtins Gd.T.nolimit hg hobj hints (Nat.le_trans hlen hn2) hr hF hb ?_
  intro H hS
  refine ⟨H, [.scr ns], .bl true, In.refl H, .cons ?_ .nil, rfl, hfn ns hlen, fun v G' H' _ r => dr_bl r⟩
  rw [DR]
  exact ⟨a, rfl, hS⟩
end SK
namespace SK
open PySem PySem.Spec PyProof.Rows L2
theorem bt_len : bootBuiltins "len" = some (.builtin "len") := by decide +kernel
theorem bt_isinstance : bootBuiltins "isinstance" = some (.builtin "isinstance") := by decide +kernel
theorem bt_all : bootBuiltins "all" = some (.builtin "all") := by decide +kernel
theorem bt_any : bootBuiltins "any" = some (.builtin "any") := by decide +kernel
theorem bt_abs : bootBuiltins "abs" = some (.builtin "abs") := by decide +kernel
theorem bt_max : bootBuiltins "max" = some (.builtin "max") := by decide +kernel
theorem bt_min : bootBuiltins "min" = some (.builtin "min") := by decide +kernel
theorem bt_repr : bootBuiltins "repr" = some (.builtin "repr") := by decide +kernel
theorem bt_int : bootBuiltins "int" = some (.type "int") := by decide +kernel
theorem bt_str : bootBuiltins "str" = some (.type "str") := by decide +kernel
theorem bt_bool : bootBuiltins "bool" = some (.type "bool") := by decide +kernel
theorem bt_list : bootBuiltins "list" = some (.type "list") := by decide +kernel
theorem bt_tuple : bootBuiltins "tuple" = some (.type "tuple") := by decide +kernel
theorem bt_dict : bootBuiltins "dict" = some (.type "dict") := by decide +kernel
/-- a constant of the module -/
structure Const1 (K : PySem.W.Frag) (mg : Str → Option Value) (x : Str) (d : D) : Prop where
  ex : ∃ u v, mg x = some u ∧ RelV v u ∧ ∀ G, DR K mg G d v
theorem Const1.de {X : Cx} {x : Str} {d : D} {pos : Pos} (c : Const1 X.K X.mg x d) (hg : Gl X x) (hd : (x == ("__debug__" : Str)) = false := by decide) : DE X (.Name x pos) (mC d) := by
  obtain ⟨u, v, h1, h2, h3⟩ := c.ex
  exact de_glob hg h1 h2 h3 hd
section
variable {K : PySem.W.Frag} {mg : Str → Option Value} {x : Str}
theorem Const1.str {s : Str} {t : Tok} (h : mg x = some (.str s t)) : Const1 K mg x (.str s) := ⟨_, .str s, h, ⟨t, rfl⟩, fun G => by rw [DR]⟩
theorem Const1.int {i : Int} {t : Tok} (h : mg x = some (.int i t)) : Const1 K mg x (.int i) := ⟨_, .int i, h, ⟨t, rfl⟩, fun G => by rw [DR]⟩
theorem drs_strs {G : Hp} : ∀ ss : List Str, DRs K mg G (ss.map D.str) (ss.map V.str)
  | [] => .nil
  | s :: ss => .cons (by rw [DR]) (drs_strs ss)
theorem Const1.strs {a : Addr} {dd : Option Addr} {us : Array Value} {n : Nat} {sl : Array (Option Value)} {ss : List Str} (h : mg x = some (.ref a)) (k : K.lookup a = some ⟨.type "tuple", dd, .seq us n, sl⟩) (hz : us.size ≤ sizeLine) (r : Vals (ss.map V.str) us.toList) :
    Const1 K mg x (.tup (ss.map D.str)) := ⟨_, .ref a, h, rfl, fun G => by
  rw [DR]
  exact ⟨a, ss.map V.str, rfl, .inr ⟨_, us, n, k, rfl, rfl, hz, r⟩, drs_strs ss⟩⟩
end
def gNeg : D → Option D
  | .int i => some (.int (-i))
  | _ => none
theorem ud_neg {K : PySem.W.Frag} {mg : Str → Option Value} : UnD K mg (rU fun i => .int (-i)) gNeg := by
  intro G H x dx d Q i r e k
  cases dx with
  | int j => cases e; exact ⟨j, dr_int r, k _ G H (Gr.refl i) (is_int _)⟩
  | _ => cases e
end SK
namespace SK
open PySem L2
/-! ### how mirrors run: plain facts -/
theorem mBind_ok {α β : Type} {m : M α} {f : α → M β} {s s' : SS} {a : α} (h : m s = some (a, s')) : mBind m f s = f a s' := by
  unfold mBind
  rw [h]
section
variable {S : SS} {i : Nat}
theorem mLcGo_pure {t : M Bool} {e : M D} {tb : D → Bool} {ev : D → D} : ∀ ds : List D, (∀ d ∈ ds, t (S.set i (some (.sh d))) = some (tb d, S.set i (some (.sh d)))) → (∀ d ∈ ds, tb d = true → e (S.set i (some (.sh d))) = some (ev d, S.set i (some (.sh d)))) →
    mLcGo i t e ds (S.set i none) = some ((ds.filter tb).map ev, S.set i none)
  | [], _, _ => rfl
  | d :: ds, h1, h2 => by
    have ih := mLcGo_pure (t := t) (e := e) (tb := tb) (ev := ev) ds (fun x hx => h1 x (List.mem_cons_of_mem _ hx)) fun x hx => h2 x (List.mem_cons_of_mem _ hx)
    have e1 := h1 d List.mem_cons_self
    show (match t ((S.set i none).set i (some (.sh d))) with
      | none => none
      | some (false, S1) => mLcGo i t e ds (S1.set i none)
      | some (true, S1) => match e S1 with
        | none => none
        | some (y, S2) => match mLcGo i t e ds (S2.set i none) with
          | none => none
          | some (ys, S3) => some (y :: ys, S3)) = _
    rw [List.set_set, e1]
    cases q : tb d with
    | false =>
      show mLcGo i t e ds ((S.set i (some (.sh d))).set i none) = _
      rw [List.set_set, ih, List.filter_cons_of_neg (by rw [q]; exact Bool.false_ne_true)]
    | true =>
      have e2 := h2 d List.mem_cons_self q
      show (match e (S.set i (some (.sh d))) with
        | none => none
        | some (y, S2) => match mLcGo i t e ds (S2.set i none) with
          | none => none
          | some (ys, S3) => some (y :: ys, S3)) = _
      rw [e2]
      show (match mLcGo i t e ds ((S.set i (some (.sh d))).set i none) with
          | none => none
          | some (ys, S3) => some (ev d :: ys, S3)) = _
      rw [List.set_set, ih, List.filter_cons_of_pos q]
      rfl
theorem mLc_pure {mi : M (List D)} {t : M Bool} {e : M D} {tb : D → Bool} {ev : D → D} {ds : List D} {S0 : SS} (hi : mi S0 = some (ds, S)) (hp : plain1 S i = true) (h1 : ∀ d ∈ ds, t (S.set i (some (.sh d))) = some (tb d, S.set i (some (.sh d))))
    (h2 : ∀ d ∈ ds, tb d = true → e (S.set i (some (.sh d))) = some (ev d, S.set i (some (.sh d)))) (hs : small ((ds.filter tb).map ev).length = true) : mLc i mi t e S0 = some (.lst ((ds.filter tb).map ev), S) := by
  unfold mLc
  rw [mBind_ok hi]
  show (if plain1 S i then (match mLcGo i t e ds (S.set i none) with
    | none => none
    | some (ys, S1) => if small ys.length then some (D.lst ys, S1.set i (S[i]?.getD none)) else none) else none) = _
  rw [if_pos hp, mLcGo_pure ds h1 h2]
  show (if small ((ds.filter tb).map ev).length then some (D.lst ((ds.filter tb).map ev), (S.set i none).set i (S[i]?.getD none)) else none) = _
  rw [if_pos hs, List.set_set]
  have hl := plain1_lt hp
  rw [List.getElem?_eq_getElem hl]
  show some (D.lst ((ds.filter tb).map ev), S.set i S[i]) = _
  rw [List.set_getElem_self hl]
end
theorem small_of {n : Nat} (h : n ≤ 100000) : small n = true := decide_eq_true (Nat.le_trans h (by decide))
theorem log2_lt {x : Int} {k : Nat} (h0 : 0 ≤ x) (h : x < 2 ^ k) (hk : 0 < k) : x.natAbs.log2 < k := by
  obtain ⟨n, rfl⟩ := Int.eq_ofNat_of_zero_le h0
  by_cases hn : n = 0
  · subst hn; simpa using hk
  · rw [show ((n : Int)).natAbs = n from rfl]
    rw [Nat.log2_lt hn]
    exact_mod_cast h
theorem cMul_of {x y : Int} {j k : Nat} (hx : 0 ≤ x) (hx2 : x < 2 ^ j) (hy : 0 ≤ y) (hy2 : y < 2 ^ k) (hj : 0 < j) (hk : 0 < k) (h : j + k ≤ 1000000) : cMul x y = true := by
  have a := log2_lt hx hx2 hj
  have b := log2_lt hy hy2 hk
  exact decide_eq_true (by omega)
/-! ### one step each -/
section
variable {S : SS} {i j l : Nat} {a b c m : M D} {t u : M Bool} {x y : M Out} {ms : M (List D)} {g g' : D → D → Option D}
@[simp] theorem ev_pure {α : Type} {v : α} : mPure v S = some (v, S) := rfl
@[simp] theorem ev_none {α : Type} : (mNone : M α) S = none := rfl
@[simp] theorem ev_C {d : D} : mC d S = some (d, S) := rfl
@[simp] theorem ev_var : mVar i S = match S[i]? with
  | some (some (.sh d)) => some (d, S)
  | _ => none := rfl
theorem ev_bind {α β : Type} {m : M α} {f : α → M β} : mBind m f S = (m S).bind fun p => f p.1 p.2 := by
  unfold mBind
  cases m S <;> rfl
theorem ev_opt {α : Type} {o : Option α} : mOpt o S = o.map fun v => (v, S) := rfl
theorem ev_ite {α : Type} {q : Bool} {p r : M α} : (if q = true then p else r) S = if q = true then p S else r S := by cases q <;> rfl
@[simp] theorem ev_op : mOp g a b S = (a S).bind fun p => (b p.2).bind fun q => (g p.1 q.1).map fun d => (d, q.2) := by simp only [mOp, ev_bind, ev_opt]
@[simp] theorem ev_un {g : D → Option D} : mUn g a S = (a S).bind fun p => (g p.1).map fun d => (d, p.2) := by simp only [mUn, ev_bind, ev_opt]
@[simp] theorem ev_B : mB a S = (a S).bind fun p => (asB p.1).map fun d => (d, p.2) := by simp only [mB, ev_bind, ev_opt]
@[simp] theorem ev_and : mAnd t u S = (t S).bind fun p => if p.1 = true then u p.2 else some (false, p.2) := by simp only [mAnd, ev_bind, ev_ite, ev_pure]
@[simp] theorem ev_or : mOr t u S = (t S).bind fun p => if p.1 = true then some (true, p.2) else u p.2 := by simp only [mOr, ev_bind, ev_ite, ev_pure]
@[simp] theorem ev_not : mNot t S = (t S).bind fun p => some (!p.1, p.2) := by simp only [mNot, ev_bind, ev_pure]
@[simp] theorem ev_andV : mAndV a b S = (a S).bind fun p => match p.1 with
  | .bl true => b p.2
  | .bl false => some (.bl false, p.2)
  | _ => none := by
  simp only [mAndV, ev_bind]
  congr 1
  funext p
  rcases p with ⟨d, s⟩
  cases d with
  | bl q => cases q <;> rfl
  | _ => rfl
@[simp] theorem ev_orV : mOrV a b S = (a S).bind fun p => match p.1 with
  | .bl true => some (.bl true, p.2)
  | .bl false => b p.2
  | _ => none := by
  simp only [mOrV, ev_bind]
  congr 1
  funext p
  rcases p with ⟨d, s⟩
  cases d with
  | bl q => cases q <;> rfl
  | _ => rfl
@[simp] theorem ev_notV : mNotV a S = (a S).bind fun p => match p.1 with
  | .bl q => some (.bl (!q), p.2)
  | _ => none := by
  simp only [mNotV, ev_bind]
  congr 1
  funext p
  rcases p with ⟨d, s⟩
  cases d <;> rfl
@[simp] theorem ev_if {α : Type} {p q : M α} : mIf t p q S = (t S).bind fun r => if r.1 = true then p r.2 else q r.2 := by simp only [mIf, ev_bind, ev_ite]
@[simp] theorem ev_chain : mChain g g' a b c S = (a S).bind fun p => (b p.2).bind fun q => (g p.1 q.1).bind fun z => match z with
  | .bl true => (c q.2).bind fun r => (g' q.1 r.1).map fun d => (d, r.2)
  | .bl false => some (.bl false, q.2)
  | _ => none := by
  simp only [mChain, ev_bind, ev_opt]
  congr 1
  funext p
  congr 1
  funext q
  cases g p.1 q.1 with
  | none => rfl
  | some z =>
    show (match z with
      | .bl true => mBind c fun w => mOpt (g' q.1 w)
      | .bl false => mPure (.bl false)
      | _ => mNone) q.2 = _
    split
    · simp only [ev_bind, ev_opt, Option.bind_some]
    · rfl
    · simp [ev_none]
@[simp] theorem ev_nil : mNil S = some ([], S) := rfl
@[simp] theorem ev_cons : mCons a ms S = (a S).bind fun p => (ms p.2).bind fun q => some (p.1 :: q.1, q.2) := by simp only [mCons, ev_bind, ev_pure]
@[simp] theorem ev_tup : mTup ms S = (ms S).bind fun p => if small p.1.length = true then some (.tup p.1, p.2) else none := by simp only [mTup, ev_bind, ev_ite, ev_pure, ev_none]
@[simp] theorem ev_lst : mLst ms S = (ms S).bind fun p => if small p.1.length = true then some (.lst p.1, p.2) else none := by simp only [mLst, ev_bind, ev_ite, ev_pure, ev_none]
@[simp] theorem ev_call {f : List D → Option D} : mCall f ms S = (ms S).bind fun p => (f p.1).map fun d => (d, p.2) := by simp only [mCall, ev_bind, ev_opt]
@[simp] theorem ev_set {d : D} : mSet i d S = if free1 S i = true then some ((), S.set i (some (.sh d))) else none := rfl
@[simp] theorem ev_own {d : D} : mOwn i d S = if free1 S i = true then some ((), S.set i (some (.ow d))) else none := rfl
@[simp] theorem ev_asg {f : D → M Unit} : mAsg a f S = (a S).bind fun p => (f p.1 p.2).bind fun q => some (.nx, q.2) := by simp only [mAsg, ev_bind, ev_pure]
@[simp] theorem ev_asgO : mAsgO a i S = (a S).bind fun p => (mOwn i p.1 p.2).bind fun q => some (.nx, q.2) := by simp only [mAsgO, ev_bind, ev_pure]
@[simp] theorem ev_ret : mRet a S = (a S).bind fun p => some (.rt p.1, p.2) := by simp only [mRet, ev_bind, ev_pure]
@[simp] theorem ev_drop : mDrop a S = (a S).bind fun p => some (.nx, p.2) := by simp only [mDrop, ev_bind, ev_pure]
@[simp] theorem ev_seq : mSeq x y S = (x S).bind fun p => match p.1 with
  | .nx => y p.2
  | o => some (o, p.2) := by
  simp only [mSeq, ev_bind]
  congr 1
  funext p
  rcases p with ⟨d, s⟩
  cases d <;> rfl
@[simp] theorem ev_seqF : mSeqF x a S = (x S).bind fun p => match p.1 with
  | .nx => a p.2
  | _ => none := by
  simp only [mSeqF, ev_bind]
  congr 1
  funext p
  rcases p with ⟨d, s⟩
  cases d <;> rfl
@[simp] theorem ev_iter : mIter a S = (a S).bind fun p => (gIter p.1).map fun d => (d, p.2) := by simp only [mIter, ev_bind, ev_opt]
@[simp] theorem ev_range1 : mRange1 ms S = (ms S).bind fun p => (gRange1 p.1).map fun d => (d, p.2) := by simp only [mRange1, ev_bind, ev_opt]
@[simp] theorem ev_for {mi : M (List D)} {f : D → M Unit} : mFor mi f x S = (mi S).bind fun p => mLoop f x p.1 p.2 := by simp only [mFor, ev_bind]
theorem ev_loop0 {f : D → M Unit} : mLoop f x [] S = some (.nx, S) := rfl
theorem ev_loop {f : D → M Unit} {d : D} {ds : List D} : mLoop f x (d :: ds) S = (f d S).bind fun p => (x p.2).bind fun q => match q.1 with
  | .nx => mLoop f x ds q.2
  | .ct => mLoop f x ds q.2
  | .bk => some (.nx, q.2)
  | .rt v => some (.rt v, q.2) := by
  simp only [mLoop, ev_bind]
  congr 1
  funext p
  congr 1
  funext q
  rcases q with ⟨d, s⟩
  cases d <;> rfl
@[simp] theorem ev_fnB {f : D → List D → Option (D × D)} : mFnB i f ms S = (ms S).bind fun p => (own1 p.2 i).bind fun c => (f c p.1).map fun r => (r.1, putO p.2 i r.2) := by
  simp only [mFnB, ev_bind]
  congr 1
  funext p
  cases h : own1 p.2 i with
  | none => rfl
  | some c =>
    show (match f c p.1 with
      | some (d, c') => some (d, putO p.2 i c')
      | none => none) = (f c p.1).map _
    cases f c p.1 with
    | none => rfl
    | some r => rfl
@[simp] theorem ev_ixO : mIxO i a S = (a S).bind fun p => match own1 p.2 i, p.1 with
  | some (.lst ds), .int k => (atI ds k).map fun d => (d, p.2)
  | _, _ => none := by
  simp only [mIxO, ev_bind]
  congr 1
  funext p
  split
  · rename_i ds k h1 h2
    try rw [h1, h2]
    show _ = (atI ds k).map fun d => (d, p.2)
    cases atI ds k <;> rfl
  · first
    | rfl
    | (split
       · rename_i h _ _ ds k h1 h2
         exact (h ds k h1 h2).elim
       · rfl)
@[simp] theorem ev_storeO : mStoreO i a b S = (a S).bind fun p => (b p.2).bind fun q => match own1 q.2 i, q.1 with
  | some (.lst ds), .int k => (ixN ds.length k).map fun n => (.nx, putO q.2 i (.lst (ds.set n p.1)))
  | _, _ => none := by
  simp only [mStoreO, ev_bind]
  congr 1
  funext p
  congr 1
  funext q
  split
  · rename_i ds k h1 h2
    try rw [h1, h2]
    show _ = (ixN ds.length k).map _
    cases ixN ds.length k <;> rfl
  · first
    | rfl
    | (split
       · rename_i h _ _ ds k h1 h2
         exact (h ds k h1 h2).elim
       · rfl)
@[simp] theorem ev_part : mPart a S = (a S).bind fun p => (asI p.1).map fun d => (d, p.2) := by simp only [mPart, ev_bind, ev_opt]
@[simp] theorem ev_sl {p q : M (Option Int)} : mSl a p q S = (a S).bind fun r => (p r.2).bind fun h => (q h.2).bind fun k => (gSl r.1 h.1 k.1).map fun d => (d, k.2) := by simp only [mSl, ev_bind, ev_opt]
@[simp] theorem ev_par3 : mPar3 i j l ms S = (ms S).bind fun p => match p.1 with
  | [u, v, w] => (mSet i u p.2).bind fun q => (mSet j v q.2).bind fun r => (mSet l w r.2).bind fun h => some (.nx, h.2)
  | _ => none := by
  simp only [mPar3, ev_bind]
  congr 1
  funext p
  rcases p with ⟨d, s⟩
  rcases d with _ | ⟨u, _ | ⟨v, _ | ⟨w, _ | _⟩⟩⟩
  · rfl
  · rfl
  · rfl
  · simp only [ev_bind, ev_pure]
  · rfl
@[simp] theorem ev_par2 : mPar2 i j ms S = (ms S).bind fun p => match p.1 with
  | [u, v] => (mSet i u p.2).bind fun q => (mSet j v q.2).bind fun r => some (.nx, r.2)
  | _ => none := by
  simp only [mPar2, ev_bind]
  congr 1
  funext p
  rcases p with ⟨d, s⟩
  rcases d with _ | ⟨u, _ | ⟨v, _ | _⟩⟩
  · rfl
  · rfl
  · simp only [ev_bind, ev_pure]
  · rfl
@[simp] theorem ev_disp {ps : List (M D × M D)} : mDisp ps S = (mPairs ps S).bind fun p => (keysD p.1).map fun kvs => (.dct (mergeD [] kvs), p.2) := by
  simp only [mDisp, ev_bind, ev_opt]
  congr 1
  funext p
  cases keysD p.1 <;> rfl
@[simp] theorem ev_pairs0 : mPairs [] S = some ([], S) := rfl
@[simp] theorem ev_pairs {ps : List (M D × M D)} : mPairs ((a, b) :: ps) S = (a S).bind fun p => (b p.2).bind fun q => (mPairs ps q.2).bind fun r => some ((p.1, q.1) :: r.1, r.2) := by simp only [mPairs, ev_bind, ev_pure]
end
/-! ### operators on known kinds -/
section
variable {i j : Int} {a b : Str} {xs ys : List D} {p q : Bool} {ns : List Int}
@[simp] theorem gAdd_int : gAdd (.int i) (.int j) = some (.int (i + j)) := rfl
@[simp] theorem gAdd_str : gAdd (.str a) (.str b) = if small (a.length + b.length) = true then some (.str (a ++ b)) else none := by
  show or2 gAddS (or2 gAddL gAddT) (.str a) (.str b) = _
  unfold or2 gAddS
  dsimp only
  split <;> rename_i h
  · split at h
    · rw [if_pos (by assumption)]; exact h.symm
    · cases h
  · split at h
    · cases h
    · rw [if_neg (by assumption)]; rfl
@[simp] theorem gAdd_lst : gAdd (.lst xs) (.lst ys) = if small (xs.length + ys.length) = true then some (.lst (xs ++ ys)) else none := by
  show or2 gAddL gAddT (.lst xs) (.lst ys) = _
  unfold or2 gAddL
  dsimp only
  split <;> rename_i h
  · split at h
    · rw [if_pos (by assumption)]; exact h.symm
    · cases h
  · split at h
    · cases h
    · rw [if_neg (by assumption)]; rfl
@[simp] theorem gAdd_tup : gAdd (.tup xs) (.tup ys) = if small (xs.length + ys.length) = true then some (.tup (xs ++ ys)) else none := rfl
@[simp] theorem gSub_int : gSub (.int i) (.int j) = some (.int (i - j)) := rfl
@[simp] theorem gMul_int : gMul (.int i) (.int j) = if cMul i j = true then some (.int (i * j)) else none := by
  unfold gMul or2 gMulI gI
  dsimp only
  split <;> rename_i h
  · split at h
    · rw [if_pos (by assumption)]; exact h.symm
    · cases h
  · split at h
    · cases h
    · rw [if_neg (by assumption)]; rfl
@[simp] theorem gMul_lst : gMul (.lst xs) (.int j) = gMulL (.lst xs) (.int j) := by
  show or2 gMulL gMulS (.lst xs) (.int j) = _
  unfold or2
  split
  · rename_i h; exact h.symm
  · rename_i h; rw [h]; rfl
@[simp] theorem gMul_str : gMul (.str a) (.int j) = gMulS (.str a) (.int j) := rfl
@[simp] theorem gDiv_int : gDiv (.int i) (.int j) = if cDiv i j = true then some (.int (i / j)) else none := rfl
@[simp] theorem gMod_int : gMod (.int i) (.int j) = if cMod i j = true then some (.int (i % j)) else none := rfl
@[simp] theorem gPow_int : gPow (.int i) (.int j) = if cPow i j = true then some (.int (i ^ j.toNat)) else none := rfl
@[simp] theorem gLt_int : gLt (.int i) (.int j) = some (.bl (decide (i < j))) := rfl
@[simp] theorem gLt_str : gLt (.str a) (.str b) = some (.bl (ltS a b)) := rfl
@[simp] theorem gLe_int : gLe (.int i) (.int j) = some (.bl (decide (i ≤ j))) := rfl
@[simp] theorem gGt_int : gGt (.int i) (.int j) = some (.bl (decide (j < i))) := rfl
@[simp] theorem gGe_int : gGe (.int i) (.int j) = some (.bl (decide (j ≤ i))) := rfl
@[simp] theorem gNeg_int : gNeg (.int i) = some (.int (-i)) := rfl
@[simp] theorem asB_bl : asB (.bl p) = some p := rfl
@[simp] theorem asI_int : asI (.int i) = some (some i) := rfl
@[simp] theorem gIx_lst : gIx (.lst xs) (.int i) = atI xs i := rfl
@[simp] theorem gIx_tup : gIx (.tup xs) (.int i) = atI xs i := rfl
@[simp] theorem gIx_str : gIx (.str a) (.int i) = if small a.length = true then (atI a.cps.toList i).map fun c => .str ⟨#[c]⟩ else none := rfl
@[simp] theorem gIx_scr : gIx (.scr ns) (.int i) = (atI ns i).map D.int := rfl
@[simp] theorem gLen_str : gLen [.str a] = if small a.length = true then some (.int a.length) else none := rfl
@[simp] theorem gLen_lst : gLen [.lst xs] = some (.int xs.length) := rfl
@[simp] theorem gLen_tup : gLen [.tup xs] = some (.int xs.length) := rfl
@[simp] theorem gLen_scr : gLen [.scr ns] = some (.int ns.length) := rfl
@[simp] theorem gAbs_int : gAbs [.int i] = some (.int (if i < 0 then -i else i)) := rfl
@[simp] theorem gInt_int : gInt [.int i] = some (.int i) := rfl
@[simp] theorem gInt_bl : gInt [.bl p] = some (.int (if p then 1 else 0)) := rfl
@[simp] theorem gMax2_int : gMax2 [.int i, .int j] = some (.int (if j > i then j else i)) := rfl
@[simp] theorem gMin2_int : gMin2 [.int i, .int j] = some (.int (if j < i then j else i)) := rfl
@[simp] theorem gList_lst : gList [.lst xs] = some (.lst xs) := rfl
@[simp] theorem gList_tup : gList [.tup xs] = some (.lst xs) := rfl
@[simp] theorem gTuple_lst : gTuple [.lst xs] = some (.tup xs) := rfl
@[simp] theorem gTuple_tup : gTuple [.tup xs] = some (.tup xs) := rfl
@[simp] theorem gIter_lst : gIter (.lst xs) = some xs := rfl
@[simp] theorem gIter_tup : gIter (.tup xs) = some xs := rfl
@[simp] theorem gIter_str : gIter (.str a) = some (signs a) := rfl
@[simp] theorem gAll_lst : gAll [.lst xs] = (asBs xs).map fun bs => .bl (bs.all id) := rfl
@[simp] theorem gAny_lst : gAny [.lst xs] = (asBs xs).map fun bs => .bl (bs.any id) := rfl
@[simp] theorem gRepr_eq {d : D} : gRepr [d] = if okRepr d = true then some (.str (toPy d).shown) else none := rfl
@[simp] theorem gSl_str {lo hi : Option Int} : gSl (.str a) lo hi = if small a.length = true then some (.str (cutS a lo hi)) else none := rfl
@[simp] theorem gEq_str : gEq (.str a) (.str b) = some (.bl (decide (a = b))) := rfl
@[simp] theorem gEq_int : gEq (.int i) (.int j) = some (.bl (decide (i = j))) := rfl
@[simp] theorem gNe_str : gNe (.str a) (.str b) = some (.bl (!decide (a = b))) := rfl
@[simp] theorem gNe_int : gNe (.int i) (.int j) = some (.bl (!decide (i = j))) := rfl
@[simp] theorem outOf_rt {d : D} : outOf (.rt d) = some d := rfl
@[simp] theorem outOf_nx : outOf .nx = some .non := rfl
theorem gEq_data {d e : D} (h : eqS d e = none) (h1 : okEq d = true) (h2 : okEq e = true) : gEq d e = some (.bl (PyData.eqv (toPy d) (toPy e))) := by
  unfold gEq eqP
  rw [h, h1, h2]
  rfl
theorem gNe_data {d e : D} (h : eqS d e = none) (h1 : okEq d = true) (h2 : okEq e = true) : gNe d e = some (.bl (!PyData.eqv (toPy d) (toPy e))) := by
  unfold gNe eqP
  rw [h, h1, h2]
  rfl
end
theorem kit_str_str : kitB "str" "str" = some true := by decide +kernel
theorem kit_int_str : kitB "int" "str" = some false := by decide +kernel
theorem kit_bool_str : kitB "bool" "str" = some false := by decide +kernel
theorem kit_none_str : kitB "NoneType" "str" = some false := by decide +kernel
theorem kit_tuple_str : kitB "tuple" "str" = some false := by decide +kernel
theorem kit_list_str : kitB "list" "str" = some false := by decide +kernel
theorem kit_dict_str : kitB "dict" "str" = some false := by decide +kernel
end SK
namespace SKQ
open PySem PySem.Spec L2 SK
def N_law_dice : List Str := ["_law_script", "_law_at", "_law_cell", "_law_great", "_law_mixed"]
def m_law_dice : M D := (mSeqF (mAsg (mOp gAdd (mOp gMul (mC (.int 31)) (mVar 1)) (mC (.int 5))) (mSet 2))
    (mSeqF (mIf (mB (mOp gLt (mVar 1) (mCall gLen (mCons (mVar 0) mNil)))) (mAsg (mOp gIx (mVar 0) (mVar 1)) (mSet 2)) (mPure .nx))
    (mSeqF (mAsg (mOp gMod (mCall gInt (mCons (mCall gAbs (mCons (mVar 2) mNil)) mNil)) (mOp gPow (mOp gPow (mC (.int 10)) (mC (.int 60))) (mC (.int 12)))) (mSet 3))
    (mSeqF (mAsg (mOp gAdd (mOp gAdd (mOp gAdd (mOp gMul (mOp gMod (mCall gInt (mCons (mVar 3) mNil)) (mC (.int 2147483549))) (mC (.int 60013))) (mOp gMul (mC (.int 4099)) (mVar 1))) (mOp gMul (mC (.int 17)) (mCall gInt (mCons (mOp gLt (mVar 2) (mC (.int 0))) mNil)))) (mC (.int 43))) (mSet 4))
    (mLst (mCons (mCall gMax2 (mCons (mC (.int 0)) (mCons (mOp gSub (mVar 3) (mOp gPow (mC (.int 10)) (mC (.int 18)))) mNil))) (mCons (mOp gMod (mCall gInt (mCons (mVar 4) mNil)) (mC (.int 2305843009213693907))) (mCons (mC (.int 0)) mNil))))))))
def f_law_dice : List D → Option D := runN N_law_dice m_law_dice
def N_law_roll : List Str := ["_law_dice_here", "_law_total", "_law_one", "_law_two", "_law_found"]
def m_law_roll : M Out := (mSeq (mIf (mB (mOp gGt (mIxO 0 (mC (.int 0))) (mC (.int 0)))) (mSeq (mAsg (mOp gMod (mCall gInt (mCons (mIxO 0 (mC (.int 0))) mNil)) (mVar 1)) (mSet 4))
    (mSeq (mStoreO 0 (mOp gDiv (mIxO 0 (mC (.int 0))) (mVar 1)) (mC (.int 0)))
    (mRet (mVar 4)))) (mPure .nx))
    (mSeq (mStoreO 0 (mOp gAdd (mIxO 0 (mC (.int 2))) (mC (.int 1))) (mC (.int 2)))
    (mSeq (mAsg (mOp gMod (mCall gInt (mCons (mOp gAdd (mIxO 0 (mC (.int 1))) (mOp gMul (mC (.int 1000193)) (mIxO 0 (mC (.int 2))))) mNil)) (mC (.int 2305843009213693951))) (mSet 2))
    (mSeq (mAsg (mOp gAdd (mOp gMul (mOp gMod (mCall gInt (mCons (mOp gMul (mVar 2) (mVar 2)) mNil)) (mC (.int 2305843009213693921))) (mVar 2)) (mOp gMul (mC (.int 8221)) (mIxO 0 (mC (.int 2))))) (mSet 3))
    (mSeq (mAsg (mOp gMod (mCall gInt (mCons (mVar 3) mNil)) (mC (.int 2305843009213693907))) (mSet 3))
    (mRet (mOp gMod (mCall gInt (mCons (mOp gDiv (mVar 3) (mC (.int 8192))) mNil)) (mVar 1))))))))
def f_law_roll : D → List D → Option (D × D) := runB N_law_roll m_law_roll
def N_law_one_of : List Str := ["_law_dice_here", "_law_items"]
def m_law_one_of : M Out := (mRet (mOp gIx (mVar 1) (mFnB 0 f_law_roll (mCons (mCall gLen (mCons (mVar 1) mNil)) mNil))))
def f_law_one_of : D → List D → Option (D × D) := runB N_law_one_of m_law_one_of
/-! ### the dice -/
def dice (a b c : Int) : D := .lst [.int a, .int b, .int c]
/-- a dice list behind at most n rolls -/
def DOk (n : Nat) (d : D) : Prop := ∃ a b c : Int, d = dice a b c ∧ 0 ≤ a ∧ 0 ≤ b ∧ b < 2 ^ 62 ∧ 0 ≤ c ∧ c ≤ n
theorem DOk.up {n k : Nat} {d : D} (h : DOk n d) (hk : n ≤ k) : DOk k d := by
  obtain ⟨a, b, c, e, h1, h2, h3, h4, h5⟩ := h
  exact ⟨a, b, c, e, h1, h2, h3, h4, by omega⟩
theorem cMod_of {i j : Int} (h : 0 < j) : cMod i j = true := decide_eq_true h
theorem cDiv_of {i j : Int} (h : 0 < j) (h2 : j < 2 ^ 1000) : cDiv i j = true := by
  unfold cDiv
  rw [decide_eq_true h, decide_eq_true (Nat.lt_trans (log2_lt (Int.le_of_lt h) h2 (by decide)) (by decide))]
  rfl
theorem roll_ok {n : Nat} {d : D} {t : Int} (h : DOk n d) (hn : n ≤ 2 ^ 60) (ht : 0 < t) (ht2 : t < 2 ^ 1000) : ∃ r d', f_law_roll d [.int t] = some (.int r, d') ∧ 0 ≤ r ∧ r < t ∧ DOk (n + 1) d' := by
  obtain ⟨a, b, c, rfl, h1, h2, h3, h4, h5⟩ := h
  by_cases ha : 0 < a
  · refine ⟨a % t, dice (a / t) b c, ?_, Int.emod_nonneg _ (by omega), Int.emod_lt_of_pos _ ht, a / t, b, c, rfl, Int.ediv_nonneg h1 (by omega), h2, h3, h4, by omega⟩
    simp [f_law_roll, runB, m_law_roll, startB, N_law_roll, dice, own1, atI, ixN, ha, free1, putO, cMod_of ht, cDiv_of ht ht2]
  · have e1 : cMul 1000193 (c + 1) = true := cMul_of (j := 20) (k := 64) (by decide) (by decide) (by omega) (by omega) (by decide) (by decide) (by decide)
    have q0 : ∀ x : Int, 0 ≤ x % 2305843009213693951 ∧ x % 2305843009213693951 < 2 ^ 61 := fun x => ⟨Int.emod_nonneg _ (by decide), Int.lt_trans (Int.emod_lt_of_pos _ (by decide)) (by decide)⟩
    have q1 : ∀ x : Int, 0 ≤ x % 2305843009213693921 ∧ x % 2305843009213693921 < 2 ^ 61 := fun x => ⟨Int.emod_nonneg _ (by decide), Int.lt_trans (Int.emod_lt_of_pos _ (by decide)) (by decide)⟩
    have e2 : ∀ x : Int, cMul (x % 2305843009213693951) (x % 2305843009213693951) = true := fun x => cMul_of (j := 61) (k := 61) (q0 x).1 (q0 x).2 (q0 x).1 (q0 x).2 (by decide) (by decide) (by decide)
    have e3 : ∀ x y : Int, cMul (y % 2305843009213693921) (x % 2305843009213693951) = true := fun x y => cMul_of (j := 61) (k := 61) (q1 y).1 (q1 y).2 (q0 x).1 (q0 x).2 (by decide) (by decide) (by decide)
    have e4 : cMul 8221 (c + 1) = true := cMul_of (j := 20) (k := 64) (by decide) (by decide) (by omega) (by omega) (by decide) (by decide) (by decide)
    have m1 : ∀ x : Int, cMod x 2305843009213693951 = true := fun x => cMod_of (by decide)
    have m2 : ∀ x : Int, cMod x 2305843009213693921 = true := fun x => cMod_of (by decide)
    have m3 : ∀ x : Int, cMod x 2305843009213693907 = true := fun x => cMod_of (by decide)
    have v1 : ∀ x : Int, cDiv x 8192 = true := fun x => cDiv_of (by decide) (by decide)
    have key : ∀ one : Int, one = (b + 1000193 * (c + 1)) % 2305843009213693951 → f_law_roll (dice a b c) [.int t] = some (.int ((one * one % 2305843009213693921 * one + 8221 * (c + 1)) % 2305843009213693907 / 8192 % t), dice a b (c + 1)) := by
      intro one eo
      subst eo
      simp [f_law_roll, runB, m_law_roll, startB, N_law_roll, dice, own1, atI, ixN, ha, free1, putO, cMod_of ht, e1, e2, e3, e4, m1, m2, m3, v1]
    exact ⟨_, dice a b (c + 1), key _ rfl, Int.emod_nonneg _ (Int.ne_of_gt ht), Int.emod_lt_of_pos _ ht, a, b, c + 1, rfl, h1, h2, h3, by omega, by omega⟩
theorem one_of_ok {n : Nat} {d : D} {xs : List D} (h : DOk n d) (hn : n ≤ 2 ^ 60) (h0 : xs ≠ []) (hl : xs.length ≤ 100000) : ∃ x d', f_law_one_of d [.lst xs] = some (x, d') ∧ x ∈ xs ∧ DOk (n + 1) d' := by
  have hlen : 0 < xs.length := List.length_pos_iff.mpr h0
  obtain ⟨r, d', e, h1, h2, h3⟩ := roll_ok (t := (xs.length : Int)) h hn (by omega) (Int.lt_of_le_of_lt (b := 100000) (by omega) (by decide))
  have hr : r.toNat < xs.length := by omega
  refine ⟨xs[r.toNat], d', ?_, List.getElem_mem hr, h3⟩
  have ea : atI xs r = some xs[r.toNat] := by
    unfold atI ixN
    rw [if_pos h1, if_pos h2]
    show xs[r.toNat]? = _
    exact List.getElem?_eq_getElem hr
  simp [f_law_one_of, runB, m_law_one_of, startB, N_law_one_of, own1, e, ea, putO]
theorem pow_is : ((10 : Int) ^ (60 : Int).toNat) ^ (12 : Int).toNat = 10 ^ 720 := by decide +kernel
theorem dice_ok {ns : List Int} {k : Int} (h0 : 0 ≤ k) (h1 : k < 100) : ∃ d, f_law_dice [.scr ns, .int k] = some d ∧ DOk 0 d := by
  have p1 : cPow 10 60 = true := by decide +kernel
  have p2 : cPow ((10 : Int) ^ (60 : Int).toNat) 12 = true := by decide +kernel
  have p3 : cPow 10 18 = true := by decide +kernel
  have c1 : cMul 31 k = true := cMul_of (j := 10) (k := 10) (by decide) (by decide) h0 (by omega) (by decide) (by decide) (by decide)
  have c2 : cMul 4099 k = true := cMul_of (j := 20) (k := 10) (by decide) (by decide) h0 (by omega) (by decide) (by decide) (by decide)
  have c3 : ∀ x : Int, cMul (x % 2147483549) 60013 = true := fun x => cMul_of (j := 40) (k := 20) (Int.emod_nonneg _ (by decide)) (Int.lt_trans (Int.emod_lt_of_pos _ (by decide)) (by decide)) (by decide) (by decide) (by decide) (by decide) (by decide)
  have c4 : cMul 17 1 = true := by decide +kernel
  have c5 : cMul 17 0 = true := by decide +kernel
  have m1 : ∀ x : Int, cMod x (((10 : Int) ^ (60 : Int).toNat) ^ (12 : Int).toNat) = true := fun x => cMod_of (by rw [pow_is]; decide +kernel)
  have m2 : ∀ x : Int, cMod x 2147483549 = true := fun x => cMod_of (by decide)
  have m3 : ∀ x : Int, cMod x 2305843009213693907 = true := fun x => cMod_of (by decide)
  have big : ∀ x : Int, (0 : Int) ≤ (if x - (10 : Int) ^ (18 : Int).toNat > 0 then x - (10 : Int) ^ (18 : Int).toNat else 0) := fun x => by split <;> omega
  have fin : ∀ x y : Int, 0 ≤ x → DOk 0 (.lst [.int x, .int (y % 2305843009213693907), .int 0]) := fun x y hx => ⟨x, _, 0, rfl, hx, Int.emod_nonneg _ (by decide), Int.lt_trans (Int.emod_lt_of_pos _ (by decide)) (by decide), Int.le_refl _, Int.le_refl _⟩
  have all : ∀ x : Int, (∀ ms, mSeqF (mIf (mB (mOp gLt (mVar 1) (mCall gLen (mCons (mVar 0) mNil)))) (mAsg (mOp gIx (mVar 0) (mVar 1)) (mSet 2)) (mPure .nx)) ms [some (.sh (.scr ns)), some (.sh (.int k)), some (.sh (.int (31 * k + 5))), none, none] = ms [some (.sh (.scr ns)), some (.sh (.int k)), some (.sh (.int x)), none, none]) → ∃ d, f_law_dice [.scr ns, .int k] = some d ∧ DOk 0 d := by
    intro x hx0
    have st : ∀ ms, mSeqF (mAsg (mOp gAdd (mOp gMul (mC (.int 31)) (mVar 1)) (mC (.int 5))) (mSet 2)) ms (startS N_law_dice [.scr ns, .int k]) = ms [some (.sh (.scr ns)), some (.sh (.int k)), some (.sh (.int (31 * k + 5))), none, none] := by
      intro ms
      simp [startS, N_law_dice, c1, free1]
    have sg : ∃ g : Int, (if x < 0 then (1 : Int) else 0) = g ∧ cMul 17 g = true := by
      by_cases hx : x < 0
      · exact ⟨1, if_pos hx, c4⟩
      · exact ⟨0, if_neg hx, c5⟩
    obtain ⟨g, hg1, hg2⟩ := sg
    have key : ∃ u v : Int, 0 ≤ u ∧ f_law_dice [.scr ns, .int k] = some (.lst [.int u, .int (v % 2305843009213693907), .int 0]) := by
      unfold f_law_dice SK.runN m_law_dice
      rw [st, hx0]
      generalize hG : (if x < 0 then -x else x) % (((10 : Int) ^ (60 : Int).toNat) ^ (12 : Int).toNat) = gr
      refine ⟨_, gr % 2147483549 * 60013 + 4099 * k + 17 * g + 43, big gr, ?_⟩
      simp only [ev_seqF, ev_asg, ev_op, ev_call, ev_cons, ev_nil, ev_var, ev_C, ev_lst, ev_set, List.getElem?_cons_zero, List.getElem?_cons_succ, Option.bind_some, gAbs_int, Option.map_some, gInt_int, gPow_int, p1, p2, p3, if_true, gMod_int, m1, m2, m3, free1, List.set_cons_zero, List.set_cons_succ, gMul_int, c2, c3, gAdd_int, gLt_int, gInt_bl, decide_eq_true_eq, hg1, hg2, gMax2_int, gSub_int, hG]
      rfl
    obtain ⟨u, v, hu, e⟩ := key
    exact ⟨_, e, fin u v hu⟩
  by_cases hk : k < (ns.length : Int)
  · have hkn : k.toNat < ns.length := by omega
    have ea : atI ns k = some ns[k.toNat] := by
      unfold atI ixN
      rw [if_pos h0, if_pos hk]
      exact List.getElem?_eq_getElem hkn
    refine all ns[k.toNat] fun ms => ?_
    simp [hk, ea, free1]
  · refine all (31 * k + 5) fun ms => ?_
    simp [hk]
end SKQ
namespace K01
open PySem PySem.Spec PyProof.Rows L2 SK
def c_RESERVED : D := (D.tup [(D.str "failed"), (D.str "kept"), (D.str "skipped"), (D.str "undone")])
def c_LETTERS : D := (D.str "abcdefghijklmnopqrstuvwxyz")
def c_MAX_LETTERS : D := (D.int 8)
def N_is_name : List Str := ["value", "sign"]
def m_is_name : M Out := (mSeq (mIf (mOr (mNot (mB (mCall gIsi (mCons (mVar 0) (mCons (mC (.ty "str")) mNil))))) (mNot (mB (mChain gLe gLe (mC (.int 1)) (mCall gLen (mCons (mVar 0) mNil)) (mC c_MAX_LETTERS))))) (mRet (mC (.bl false))) (mPure .nx))
    (mRet (mCall gAll (mCons (mLc 1 (mIter (mVar 0)) (mPure true) (mOp gIn (mVar 1) (mC c_LETTERS))) mNil))))
def f_is_name : List D → Option D := runF N_is_name m_is_name
def N_is_answer : List Str := ["value"]
def m_is_answer : M Out := (mRet (mAndV (mCall f_is_name (mCons (mVar 0) mNil)) (mOp gNotIn (mVar 0) (mC c_RESERVED))))
def f_is_answer : List D → Option D := runF N_is_answer m_is_answer
def N_law_dice : List Str := ["_law_script", "_law_at", "_law_cell", "_law_great", "_law_mixed"]
def m_law_dice : M D := (mSeqF (mAsg (mOp gAdd (mOp gMul (mC (.int 31)) (mVar 1)) (mC (.int 5))) (mSet 2))
    (mSeqF (mIf (mB (mOp gLt (mVar 1) (mCall gLen (mCons (mVar 0) mNil)))) (mAsg (mOp gIx (mVar 0) (mVar 1)) (mSet 2)) (mPure .nx))
    (mSeqF (mAsg (mOp gMod (mCall gInt (mCons (mCall gAbs (mCons (mVar 2) mNil)) mNil)) (mOp gPow (mOp gPow (mC (.int 10)) (mC (.int 60))) (mC (.int 12)))) (mSet 3))
    (mSeqF (mAsg (mOp gAdd (mOp gAdd (mOp gAdd (mOp gMul (mOp gMod (mCall gInt (mCons (mVar 3) mNil)) (mC (.int 2147483549))) (mC (.int 60013))) (mOp gMul (mC (.int 4099)) (mVar 1))) (mOp gMul (mC (.int 17)) (mCall gInt (mCons (mOp gLt (mVar 2) (mC (.int 0))) mNil)))) (mC (.int 43))) (mSet 4))
    (mLst (mCons (mCall gMax2 (mCons (mC (.int 0)) (mCons (mOp gSub (mVar 3) (mOp gPow (mC (.int 10)) (mC (.int 18)))) mNil))) (mCons (mOp gMod (mCall gInt (mCons (mVar 4) mNil)) (mC (.int 2305843009213693907))) (mCons (mC (.int 0)) mNil))))))))
def f_law_dice : List D → Option D := runN N_law_dice m_law_dice
def N_law_roll : List Str := ["_law_dice_here", "_law_total", "_law_one", "_law_two", "_law_found"]
def m_law_roll : M Out := (mSeq (mIf (mB (mOp gGt (mIxO 0 (mC (.int 0))) (mC (.int 0)))) (mSeq (mAsg (mOp gMod (mCall gInt (mCons (mIxO 0 (mC (.int 0))) mNil)) (mVar 1)) (mSet 4))
    (mSeq (mStoreO 0 (mOp gDiv (mIxO 0 (mC (.int 0))) (mVar 1)) (mC (.int 0)))
    (mRet (mVar 4)))) (mPure .nx))
    (mSeq (mStoreO 0 (mOp gAdd (mIxO 0 (mC (.int 2))) (mC (.int 1))) (mC (.int 2)))
    (mSeq (mAsg (mOp gMod (mCall gInt (mCons (mOp gAdd (mIxO 0 (mC (.int 1))) (mOp gMul (mC (.int 1000193)) (mIxO 0 (mC (.int 2))))) mNil)) (mC (.int 2305843009213693951))) (mSet 2))
    (mSeq (mAsg (mOp gAdd (mOp gMul (mOp gMod (mCall gInt (mCons (mOp gMul (mVar 2) (mVar 2)) mNil)) (mC (.int 2305843009213693921))) (mVar 2)) (mOp gMul (mC (.int 8221)) (mIxO 0 (mC (.int 2))))) (mSet 3))
    (mSeq (mAsg (mOp gMod (mCall gInt (mCons (mVar 3) mNil)) (mC (.int 2305843009213693907))) (mSet 3))
    (mRet (mOp gMod (mCall gInt (mCons (mOp gDiv (mVar 3) (mC (.int 8192))) mNil)) (mVar 1))))))))
def f_law_roll : D → List D → Option (D × D) := runB N_law_roll m_law_roll
def N_law_one_of : List Str := ["_law_dice_here", "_law_items"]
def m_law_one_of : M Out := (mRet (mOp gIx (mVar 1) (mFnB 0 f_law_roll (mCons (mCall gLen (mCons (mVar 1) mNil)) mNil))))
def f_law_one_of : D → List D → Option (D × D) := runB N_law_one_of m_law_one_of
def N_law_odd : List Str := ["_law_dice_here", "_law_some"]
def m_law_odd : M Out := (mSeq (mAsg (mLst (mCons (mC .non) (mCons (mC (.bl true)) (mCons (mC (.bl false)) (mCons (mC (.int 0)) (mCons (mC (.int 1)) (mCons (mUn gNeg (mC (.int 1))) (mCons (mC (.int 2)) (mCons (mC (.int 3)) (mCons (mOp gPow (mC (.int 10)) (mC (.int 50))) (mCons (mC (.str "")) (mCons (mC (.str "x")) (mCons (mC (.str "X")) (mCons (mC (.str "failed")) (mCons (mC (.str "kept")) (mCons (mC (.str "skipped")) (mCons (mC (.str "undone")) mNil))))))))))))))))) (mSet 1))
    (mSeq (mAsg (mOp gAdd (mVar 1) (mLst (mCons (mC (.str "abcdefghi")) (mCons (mC (.str "a b")) (mCons (mC (.str "a\n")) (mCons (mC (.str "ok ")) (mCons (mC (.str "1")) (mCons (mTup mNil) (mCons (mLst mNil) (mCons (mC (.dct [])) (mCons (mTup (mCons (mC (.str "x")) mNil)) (mCons (mLst (mCons (mC (.str "x")) mNil)) (mCons (mDisp [((mC (.str "x")), (mC (.int 1)))]) (mCons (mTup (mCons (mTup mNil) mNil)) (mCons (mTup (mCons (mC .non) mNil)) mNil))))))))))))))) (mSet 1))
    (mSeq (mAsg (mOp gAdd (mVar 1) (mLst (mCons (mTup (mCons (mC (.str "mark")) mNil)) (mCons (mTup (mCons (mC (.str "send")) mNil)) mNil)))) (mSet 1))
    (mRet (mFnB 0 f_law_one_of (mCons (mVar 1) mNil))))))
def f_law_odd : D → List D → Option (D × D) := runB N_law_odd m_law_odd
def N_law_is_name : List Str := ["_law_value", "_law_sign"]
def m_law_is_name : M Out := (mSeq (mIf (mOr (mNot (mB (mCall gIsi (mCons (mVar 0) (mCons (mC (.ty "str")) mNil))))) (mNot (mB (mChain gLe gLe (mC (.int 1)) (mCall gLen (mCons (mVar 0) mNil)) (mC (.int 8)))))) (mRet (mC (.bl false))) (mPure .nx))
    (mRet (mOp gEq (mLc 1 (mIter (mVar 0)) (mB (mOp gNotIn (mVar 1) (mC (.str "abcdefghijklmnopqrstuvwxyz")))) (mVar 1)) (mLst mNil))))
def f_law_is_name : List D → Option D := runF N_law_is_name m_law_is_name
def N_law_is_answer : List Str := ["_law_value"]
def m_law_is_answer : M Out := (mRet (mAndV (mCall f_law_is_name (mCons (mVar 0) mNil)) (mOp gNotIn (mVar 0) (mTup (mCons (mC (.str "failed")) (mCons (mC (.str "kept")) (mCons (mC (.str "skipped")) (mCons (mC (.str "undone")) mNil))))))))
def f_law_is_answer : List D → Option D := runF N_law_is_answer m_law_is_answer
def N_law_signs : List Str := ["_law_found"]
def m_law_signs : M Out := (mSeq (mAsg (mC (.str "abcdefghijklmnopqrstuvwxyzABCDEFGHIJKLMNOPQRSTUVWXYZ0123456789 !#$&'()*+,-./:;<=>?\x40[]^_{|}~")) (mSet 0))
    (mRet (mOp gAdd (mOp gAdd (mOp gAdd (mOp gAdd (mVar 0) (mC (.str "\""))) (mC (.str "`"))) (mC (.str "\\"))) (mC (.str "\n")))))
def f_law_signs : List D → Option D := runF N_law_signs m_law_signs
def N_law_word : List Str := ["_law_dice_here", "_law_way", "_law_word_here", "_law_signs_here", "_law_turn", "_law_at"]
def m_law_word : M Out := (mSeq (mPar3 1 2 3 (mCons (mFnB 0 f_law_roll (mCons (mC (.int 4)) mNil)) (mCons (mC (.str "")) (mCons (mCall f_law_signs mNil) mNil))))
    (mSeq (mFor (mRange1 (mCons (mFnB 0 f_law_roll (mCons (mC (.int 11)) mNil)) mNil)) (mSet 4) (mAsg (mOp gAdd (mVar 2) (mOp gIx (mVar 3) (mFnB 0 f_law_roll (mCons (mIf (mB (mOp gLt (mVar 1) (mC (.int 3)))) (mC (.int 26)) (mCall gLen (mCons (mVar 3) mNil))) mNil)))) (mSet 2)))
    (mSeq (mIf (mB (mOp gEq (mVar 1) (mC (.int 1)))) (mSeq (mAsg (mFnB 0 f_law_roll (mCons (mOp gAdd (mCall gLen (mCons (mVar 2) mNil)) (mC (.int 1))) mNil)) (mSet 5))
    (mAsg (mOp gAdd (mOp gAdd (mSl (mVar 2) (mPure none) (mPart (mVar 5))) (mOp gIx (mVar 3) (mFnB 0 f_law_roll (mCons (mCall gLen (mCons (mVar 3) mNil)) mNil)))) (mSl (mVar 2) (mPart (mOp gAdd (mVar 5) (mC (.int 1)))) (mPure none))) (mSet 2))) (mPure .nx))
    (mSeq (mIf (mB (mOp gEq (mVar 1) (mC (.int 2)))) (mSeq (mAsg (mFnB 0 f_law_one_of (mCons (mLst (mCons (mC (.str "failed")) (mCons (mC (.str "kept")) (mCons (mC (.str "skipped")) (mCons (mC (.str "undone")) mNil))))) mNil)) (mSet 2))
    (mSeq (mAsg (mFnB 0 f_law_roll (mCons (mOp gAdd (mCall gLen (mCons (mVar 2) mNil)) (mC (.int 1))) mNil)) (mSet 5))
    (mAsg (mOp gAdd (mOp gAdd (mSl (mVar 2) (mPure none) (mPart (mVar 5))) (mFnB 0 f_law_one_of (mCons (mLst (mCons (mC (.str "")) (mCons (mC (.str "s")) (mCons (mC (.str "d")) (mCons (mC (.str "K")) mNil))))) mNil))) (mSl (mVar 2) (mPart (mOp gAdd (mVar 5) (mFnB 0 f_law_roll (mCons (mC (.int 2)) mNil)))) (mPure none))) (mSet 2)))) (mPure .nx))
    (mRet (mVar 2))))))
def f_law_word : D → List D → Option (D × D) := runB N_law_word m_law_word
def N_law_right : List Str := ["_law_dice_here", "_law_value"]
def m_law_right : M Out := (mSeq (mFor (mIter (mTup (mCons (mFnB 0 f_law_word mNil) (mCons (mFnB 0 f_law_word mNil) (mCons (mFnB 0 f_law_odd mNil) (mCons (mFnB 0 f_law_one_of (mCons (mCall gList (mCons (mC c_RESERVED) mNil)) mNil)) mNil)))))) (mSet 1) (mIf (mB (mOp gNe (mCall gRepr (mCons (mLst (mCons (mCall f_is_name (mCons (mVar 1) mNil)) (mCons (mCall f_is_answer (mCons (mVar 1) mNil)) mNil))) mNil)) (mCall gRepr (mCons (mLst (mCons (mCall f_law_is_name (mCons (mVar 1) mNil)) (mCons (mCall f_law_is_answer (mCons (mVar 1) mNil)) mNil))) mNil)))) (mRet (mC (.bl false))) (mPure .nx)))
    (mRet (mC (.bl true))))
def f_law_right : D → List D → Option (D × D) := runB N_law_right m_law_right
def N_law : List Str := ["_law_script", "_law_at", "_law_words", "_law_told", "_law_dice_here", "_law_turn", "_law_one", "_law_size"]
def m_law : M Out := (mSeq (mFor (mRange1 (mCons (mCall gMax2 (mCons (mC (.int 1)) (mCons (mCall gMin2 (mCons (mC (.int 6)) (mCons (mCall gLen (mCons (mVar 0) mNil)) mNil))) mNil))) mNil)) (mSet 1) (mSeq (mAsgO (mCall f_law_dice (mCons (mVar 0) (mCons (mVar 1) mNil))) 4)
    (mFor (mRange1 (mCons (mC (.int 12)) mNil)) (mSet 5) (mIf (mNot (mB (mFnB 4 f_law_right mNil))) (mRet (mC (.bl false))) (mPure .nx)))))
    (mSeq (mAsg (mLst (mCons (mC (.str "a")) (mCons (mC (.str "z")) (mCons (mC (.str "abcdefgh")) (mCons (mC (.str "abcdefghi")) (mCons (mC (.str "")) (mCons (mC (.str "aB")) (mCons (mC (.str "a1")) (mCons (mC (.str "kept")) (mCons (mC (.str "undones")) mNil)))))))))) (mSet 2))
    (mSeq (mIf (mB (mOp gNe (mLc 6 (mIter (mVar 2)) (mPure true) (mCall f_is_name (mCons (mVar 6) mNil))) (mOp gAdd (mOp gAdd (mOp gMul (mLst (mCons (mC (.bl true)) mNil)) (mC (.int 3))) (mOp gMul (mLst (mCons (mC (.bl false)) mNil)) (mC (.int 4)))) (mLst (mCons (mC (.bl true)) (mCons (mC (.bl true)) mNil)))))) (mRet (mC (.bl false))) (mPure .nx))
    (mSeq (mIf (mB (mOp gNe (mLc 7 (mIter (mTup (mCons (mC (.int 2)) (mCons (mC (.int 3)) (mCons (mC (.int 40)) mNil))))) (mPure true) (mOrV (mCall f_is_name (mCons (mOp gMul (mC (.str "abcdefgh")) (mVar 7)) mNil)) (mCall f_is_answer (mCons (mOp gMul (mC (.str "abcdefgh")) (mVar 7)) mNil)))) (mOp gMul (mLst (mCons (mC (.bl false)) mNil)) (mC (.int 3))))) (mRet (mC (.bl false))) (mPure .nx))
    (mSeq (mAsg (mLc 6 (mIter (mTup (mCons (mC (.str "failed")) (mCons (mC (.str "kept")) (mCons (mC (.str "skipped")) (mCons (mC (.str "undone")) (mCons (mC (.str "fail")) (mCons (mC (.str "keptt")) (mCons (mC (.str "done")) mNil))))))))) (mPure true) (mCall f_is_answer (mCons (mVar 6) mNil))) (mSet 3))
    (mRet (mAndV (mOp gEq (mVar 3) (mOp gAdd (mOp gMul (mLst (mCons (mC (.bl false)) mNil)) (mC (.int 4))) (mOp gMul (mLst (mCons (mC (.bl true)) mNil)) (mC (.int 3))))) (mOp gEq (mC c_RESERVED) (mTup (mCons (mC (.str "failed")) (mCons (mC (.str "kept")) (mCons (mC (.str "skipped")) (mCons (mC (.str "undone")) mNil)))))))))))))
def f_law : List D → Option D := runF N_law m_law
end K01
namespace K01
open PySem PySem.Spec L2 SK SKQ
theorem e_roll : K01.f_law_roll = SKQ.f_law_roll := rfl
theorem e_one : K01.f_law_one_of = SKQ.f_law_one_of := rfl
theorem e_dice : K01.f_law_dice = SKQ.f_law_dice := rfl
/-- a text whose signs are signs -/
def Good (s : Str) : Prop := s.length ≤ 100000 ∧ ∀ c ∈ s.cps.toList, c < 1114112
structure OkVal (d : D) : Prop where
  ty : ∃ n, tyN d = some n
  st : ∀ s, d = .str s → Good s
def L : Str := "abcdefghijklmnopqrstuvwxyz"
def inL : D → Bool
  | .str z => (match z.cps.toList with
    | [c] => decide (c ∈ L.cps.toList)
    | _ => false)
  | _ => false
def isN : D → Bool
  | .str s => decide ((1 : Int) ≤ s.length) && decide ((s.length : Int) ≤ 8) && (signs s).all inL
  | _ => false
theorem asBs_map (f : D → Bool) : ∀ ds : List D, asBs (ds.map fun d => .bl (f d)) = some (ds.map f)
  | [] => rfl
  | d :: ds => by
    show (asBs (ds.map fun d => .bl (f d))).map (f d :: ·) = _
    rw [asBs_map f ds]
    rfl
theorem signs_len (s : Str) : (signs s).length = s.length := by
  unfold signs
  rw [List.length_map, Array.length_toList]
  rfl
theorem mem_signs {s : Str} {d : D} (h : d ∈ signs s) : ∃ c, d = .str ⟨#[c]⟩ ∧ c ∈ s.cps.toList := by
  unfold signs at h
  rw [List.mem_map] at h
  obtain ⟨c, h1, h2⟩ := h
  exact ⟨c, h2.symm, h1⟩
theorem gIn_sign (c : Nat) (z : Str) : gIn (.str ⟨#[c]⟩) (.str z) = some (.bl (decide (c ∈ z.cps.toList))) := rfl
theorem gNotIn_sign (c : Nat) (z : Str) : gNotIn (.str ⟨#[c]⟩) (.str z) = some (.bl (!decide (c ∈ z.cps.toList))) := rfl
theorem filt_true (ds : List D) : ds.filter (fun _ => true) = ds := by simp
theorem name_str (s : Str) (h : Good s) : K01.f_is_name [.str s] = some (.bl (isN (.str s))) := by
  have hs := small_of h.1
  by_cases h1 : (1 : Int) ≤ s.length
  · by_cases h2 : (s.length : Int) ≤ 8
    · have lc := mLc_pure (S := [some (SV.sh (D.str s)), none]) (i := 1) (S0 := [some (SV.sh (D.str s)), none]) (mi := mIter (mVar 0)) (t := mPure true) (e := mOp gIn (mVar 1) (mC c_LETTERS)) (tb := fun _ => true) (ev := fun d => .bl (inL d)) (ds := signs s)
        (by simp) rfl (fun d _ => rfl) (fun d hd _ => by
          obtain ⟨c, rfl, _⟩ := mem_signs hd
          simp [c_LETTERS, gIn_sign, inL, L]) (small_of (by rw [List.length_map, filt_true, signs_len]; exact h.1))
      rw [filt_true] at lc
      simp [f_is_name, runF, m_is_name, startS, N_is_name, gIsi, tyN, kit_str_str, hs, c_MAX_LETTERS, h1, h2, lc, asBs_map, isN]
    · simp [f_is_name, runF, m_is_name, startS, N_is_name, gIsi, tyN, kit_str_str, hs, c_MAX_LETTERS, h1, h2, isN]
  · simp [f_is_name, runF, m_is_name, startS, N_is_name, gIsi, tyN, kit_str_str, hs, c_MAX_LETTERS, h1, isN]
theorem name_other {d : D} {n : String} (h : tyN d = some n) (hs : ∀ s, d ≠ .str s) : K01.f_is_name [d] = some (.bl (isN d)) := by
  cases d <;> first
    | exact absurd rfl (hs _)
    | (cases h; done)
    | simp [f_is_name, runF, m_is_name, startS, N_is_name, gIsi, tyN, kit_int_str, kit_bool_str, kit_none_str, kit_tuple_str, kit_list_str, kit_dict_str, isN]
theorem name_ok {d : D} (h : OkVal d) : K01.f_is_name [d] = some (.bl (isN d)) := by
  by_cases q : ∃ s, d = .str s
  · obtain ⟨s, rfl⟩ := q
    exact name_str s (h.st s rfl)
  · obtain ⟨n, hn⟩ := h.ty
    exact name_other hn fun s e => q ⟨s, e⟩
/-! the law's own -/
theorem okEq_signs {xs : List D} (h : ∀ d ∈ xs, ∃ c, d = .str ⟨#[c]⟩ ∧ c < 1114112) : okEq (.lst xs) = true ∧ PyData.eqv (toPy (.lst xs)) (toPy (.lst [])) = xs.isEmpty := by
  have key : ∀ ys : List D, (∀ d ∈ ys, ∃ c, d = D.str ⟨#[c]⟩ ∧ c < 1114112) → pls ys = true ∧ PyData.canLayAll0 (toPys ys) = true ∧ PyData.depthAll (toPys ys) = 0 := by
    intro ys
    induction ys with
    | nil => intro _; exact ⟨by rw [pls], by rw [toPys, PyData.canLayAll0], by rw [toPys, PyData.depthAll]⟩
    | cons y ys ih =>
      intro hy
      obtain ⟨c, rfl, hc⟩ := hy y List.mem_cons_self
      obtain ⟨i1, i2, i3⟩ := ih fun d hd => hy d (List.mem_cons_of_mem _ hd)
      refine ⟨by rw [pls, pl, i1]; rfl, ?_, ?_⟩
      · rw [toPys, toPy, PyData.canLayAll0, PyData.canLay0, i2]
        simp [PyData.strOk, hc]
      · rw [toPys, toPy, PyData.depthAll, PyData.depth, i3]
        rfl
  obtain ⟨k1, k2, k3⟩ := key xs h
  refine ⟨?_, ?_⟩
  · unfold okEq SeqAt.shaped
    rw [pl, k1, toPy, PyData.canLay0, k2, PyData.depth, k3]
    rfl
  · rw [toPy, toPy, PyData.eqv]
    cases xs with
    | nil => rfl
    | cons x xs => simp [toPys, PyData.eqvAll]
theorem all_filter (f : D → Bool) : ∀ ds : List D, (ds.filter fun d => !f d).isEmpty = ds.all f
  | [] => rfl
  | d :: ds => by
    rw [List.filter_cons, List.all_cons]
    cases e : f d with
    | true => simp [all_filter f ds]
    | false => simp
theorem own_str (s : Str) (h : Good s) : K01.f_law_is_name [.str s] = some (.bl (isN (.str s))) := by
  have hs := small_of h.1
  by_cases h1 : (1 : Int) ≤ s.length
  · by_cases h2 : (s.length : Int) ≤ 8
    · have lc := mLc_pure (S := [some (SV.sh (D.str s)), none]) (i := 1) (S0 := [some (SV.sh (D.str s)), none]) (mi := mIter (mVar 0)) (t := mB (mOp gNotIn (mVar 1) (mC (.str "abcdefghijklmnopqrstuvwxyz")))) (e := mVar 1) (tb := fun d => !inL d) (ev := fun d => d) (ds := signs s)
        (by simp) rfl (fun d hd => by
          obtain ⟨c, rfl, _⟩ := mem_signs hd
          simp [gNotIn_sign, inL, L]) (fun d hd _ => by simp) (small_of (by rw [List.length_map]; exact Nat.le_trans (List.length_filter_le _ _) (by rw [signs_len]; exact h.1)))
      rw [List.map_id'] at lc
      have oe := okEq_signs (xs := (signs s).filter fun d => !inL d) (fun d hd => by
        obtain ⟨c, e, hc⟩ := mem_signs (List.mem_filter.mp hd).1
        exact ⟨c, e, h.2 c hc⟩)
      have ge := gEq_data (d := .lst ((signs s).filter fun d => !inL d)) (e := .lst []) rfl oe.1 (by decide +kernel)
      rw [oe.2, all_filter] at ge
      simp [f_law_is_name, runF, m_law_is_name, startS, N_law_is_name, gIsi, tyN, kit_str_str, hs, h1, h2, lc, isN, small_of (show 0 ≤ 100000 by decide), ge]
    · simp [f_law_is_name, runF, m_law_is_name, startS, N_law_is_name, gIsi, tyN, kit_str_str, hs, h1, h2, isN]
  · simp [f_law_is_name, runF, m_law_is_name, startS, N_law_is_name, gIsi, tyN, kit_str_str, hs, h1, isN]
theorem own_other {d : D} {n : String} (h : tyN d = some n) (hs : ∀ s, d ≠ .str s) : K01.f_law_is_name [d] = some (.bl (isN d)) := by
  cases d <;> first
    | exact absurd rfl (hs _)
    | (cases h; done)
    | simp [f_law_is_name, runF, m_law_is_name, startS, N_law_is_name, gIsi, tyN, kit_int_str, kit_bool_str, kit_none_str, kit_tuple_str, kit_list_str, kit_dict_str, isN]
theorem own_ok {d : D} (h : OkVal d) : K01.f_law_is_name [d] = some (.bl (isN d)) := by
  by_cases q : ∃ s, d = .str s
  · obtain ⟨s, rfl⟩ := q
    exact own_str s (h.st s rfl)
  · obtain ⟨n, hn⟩ := h.ty
    exact own_other hn fun s e => q ⟨s, e⟩
end K01
namespace K01
open PySem PySem.Spec L2 SK SKQ
def RES : List V := [.str "failed", .str "kept", .str "skipped", .str "undone"]
def isA (d : D) : Bool := isN d && (match d with
  | .str s => !inV (.str s) RES
  | _ => false)
theorem isN_str {d : D} (h : isN d = true) : ∃ s, d = .str s := by
  cases d <;> first | exact ⟨_, rfl⟩ | cases h
theorem gNotIn_res (s : Str) : gNotIn (.str s) c_RESERVED = some (.bl (!inV (.str s) RES)) := rfl
theorem ans_ok {d : D} (h : OkVal d) : K01.f_is_answer [d] = some (.bl (isA d)) := by
  cases q : isN d with
  | false => simp [f_is_answer, runF, m_is_answer, startS, N_is_answer, name_ok h, q, isA]
  | true =>
    obtain ⟨s, rfl⟩ := isN_str q
    simp [f_is_answer, runF, m_is_answer, startS, N_is_answer, name_ok h, q, isA, gNotIn_res]
theorem small4 : small 4 = true := by decide
theorem own_ans_ok {d : D} (h : OkVal d) : K01.f_law_is_answer [d] = some (.bl (isA d)) := by
  cases q : isN d with
  | false => simp [f_law_is_answer, runF, m_law_is_answer, startS, N_law_is_answer, own_ok h, q, isA]
  | true =>
    obtain ⟨s, rfl⟩ := isN_str q
    have e : gNotIn (.str s) (.tup [.str "failed", .str "kept", .str "skipped", .str "undone"]) = some (.bl (!inV (.str s) RES)) := rfl
    simp [f_law_is_answer, runF, m_law_is_answer, startS, N_law_is_answer, own_ok h, q, isA, e, small4]
theorem rep2 (p q : Bool) : okRepr (.lst [.bl p, .bl q]) = true := by cases p <;> cases q <;> decide +kernel
/-! ### what is drawn -/
def ODD : List D := [.non, .bl true, .bl false, .int 0, .int 1, .int (-1), .int 2, .int 3, .int 100000000000000000000000000000000000000000000000000, .str "", .str "x", .str "X", .str "failed", .str "kept", .str "skipped", .str "undone",
  .str "abcdefghi", .str "a b", .str "a\n", .str "ok ", .str "1", .tup [], .lst [], .dct [], .tup [.str "x"], .lst [.str "x"], .dct [(.inr "x", .int 1)], .tup [.tup []], .tup [.non], .tup [.str "mark"], .tup [.str "send"]]
def goodB (d : D) : Bool := (tyN d).isSome && (match d with
  | .str s => decide (s.length ≤ 100000) && s.cps.toList.all fun c => decide (c < 1114112)
  | _ => true)
theorem okVal_of {d : D} (h : goodB d = true) : OkVal d := by
  unfold goodB at h
  rw [Bool.and_eq_true] at h
  refine ⟨Option.isSome_iff_exists.mp h.1, fun s e => ?_⟩
  subst e
  have h2 := h.2
  simp only [Bool.and_eq_true, decide_eq_true_eq, List.all_eq_true] at h2
  exact ⟨h2.1, h2.2⟩
theorem odd_all : ODD.all goodB = true := by decide +kernel
theorem pow50 : cPow 10 50 = true := by decide +kernel
theorem odd_is (d : D) : f_law_odd d [] = K01.f_law_one_of d [.lst ODD] := by
  have s16 : small 16 = true := by decide
  have s1 : small 1 = true := by decide
  have s0 : small 0 = true := by decide
  have s13 : small 13 = true := by decide
  have s2 : small 2 = true := by decide
  have s29 : small (16 + 13) = true := by decide
  have s31 : small (29 + 2) = true := by decide
  have kd : keysD [(D.str "x", D.int 1)] = some [(.inr "x", D.int 1)] := rfl
  have md : mergeD [] [((Sum.inr (Str.ofString "x") : Key), D.int 1)] = [(.inr "x", .int 1)] := rfl
  simp [f_law_odd, runB, m_law_odd, startB, N_law_odd, pow50, s16, s1, s0, s13, s2, s29, s31, free1, own1, kd, md]
  rw [show ([.non, .bl true, .bl false, .int 0, .int 1, .int (-1), .int 2, .int 3, .int 100000000000000000000000000000000000000000000000000, .str "", .str "x", .str "X", .str "failed", .str "kept", .str "skipped", .str "undone",
  .str "abcdefghi", .str "a b", .str "a\n", .str "ok ", .str "1", .tup [], .lst [], .dct [], .tup [.str "x"], .lst [.str "x"], .dct [(.inr "x", .int 1)], .tup [.tup []], .tup [.non], .tup [.str "mark"], .tup [.str "send"]] : List D) = ODD from rfl]
  cases e : K01.f_law_one_of d [.lst ODD] with
  | none => rfl
  | some r => rfl
theorem odd_ok {n : Nat} {d : D} (h : DOk n d) (hn : n ≤ 2 ^ 60) : ∃ x d', f_law_odd d [] = some (x, d') ∧ OkVal x ∧ DOk (n + 1) d' := by
  rw [odd_is, e_one]
  obtain ⟨x, d', e, hx, h'⟩ := one_of_ok (xs := ODD) h hn (by intro z; cases z) (by decide)
  exact ⟨x, d', e, okVal_of (List.all_eq_true.mp odd_all x hx), h'⟩
def SG : Str := "abcdefghijklmnopqrstuvwxyzABCDEFGHIJKLMNOPQRSTUVWXYZ0123456789 !#$&'()*+,-./:;<=>?\x40[]^_{|}~\"`\\\n"
def S1 : Str := "abcdefghijklmnopqrstuvwxyzABCDEFGHIJKLMNOPQRSTUVWXYZ0123456789 !#$&'()*+,-./:;<=>?\x40[]^_{|}~"
theorem sg_eq : (((S1 ++ ("\"" : Str)) ++ ("`" : Str)) ++ ("\\" : Str)) ++ ("\n" : Str) = SG := by decide +kernel
theorem signs_ok : f_law_signs [] = some (.str SG) := by
  have a1 : small (S1.length + Str.length "\"") = true := by decide +kernel
  have a2 : small ((S1 ++ ("\"" : Str)).length + Str.length "`") = true := by decide +kernel
  have a3 : small (((S1 ++ ("\"" : Str)) ++ ("`" : Str)).length + Str.length "\\") = true := by decide +kernel
  have a4 : small ((((S1 ++ ("\"" : Str)) ++ ("`" : Str)) ++ ("\\" : Str)).length + Str.length "\n") = true := by decide +kernel
  have m : m_law_signs = (mSeq (mAsg (mC (.str S1)) (mSet 0))
    (mRet (mOp gAdd (mOp gAdd (mOp gAdd (mOp gAdd (mVar 0) (mC (.str "\""))) (mC (.str "`"))) (mC (.str "\\"))) (mC (.str "\n"))))) := rfl
  simp [f_law_signs, runF, m, startS, N_law_signs, free1, a1, a2, a3, a4, sg_eq]
end K01
namespace K01
open PySem PySem.Spec L2 SK SKQ
def GoodN (k : Nat) (s : Str) : Prop := s.length ≤ k ∧ ∀ c ∈ s.cps.toList, c < 1114112
theorem GoodN.add {j k : Nat} {s t : Str} (h : GoodN j s) (h' : GoodN k t) : GoodN (j + k) (s ++ t) := by
  refine ⟨by rw [PySem.Str.length_append]; have := h.1; have := h'.1; omega, fun c hc => ?_⟩
  have e : (s ++ t).cps = s.cps ++ t.cps := rfl
  rw [e, Array.toList_append, List.mem_append] at hc
  rcases hc with hc | hc
  · exact h.2 c hc
  · exact h'.2 c hc
theorem goodN_cut {k : Nat} {s : Str} {lo hi : Option Int} (h : GoodN k s) : GoodN k (cutS s lo hi) := by
  refine ⟨Nat.le_trans (L2.cutS_length s lo hi) h.1, fun c hc => ?_⟩
  have hc' : c ∈ ((s.cps.toList.drop (HT.sIx s.length 0 lo)).take (HT.sIx s.length s.length hi - HT.sIx s.length 0 lo)) := by
    unfold cutS at hc
    simpa using hc
  exact h.2 c (List.mem_of_mem_drop (List.mem_of_mem_take hc'))
theorem GoodN.small {k : Nat} {s : Str} (h : GoodN k s) (hk : k ≤ 100000) : small s.length = true := small_of (Nat.le_trans h.1 hk)
theorem goodN_sign {c : Nat} (h : c < 1114112) : GoodN 1 ⟨#[c]⟩ := ⟨Nat.le_refl _, fun x hx => by
  have : x = c := by simpa using hx
  rw [this]; exact h⟩
theorem sg_len : SG.length = 95 := by decide +kernel
theorem sg_small : small SG.length = true := by decide +kernel
theorem sg_cps : SG.cps.toList.length = 95 := by decide +kernel
theorem sg_all : SG.cps.toList.all (fun c => decide (c < 1114112)) = true := by decide +kernel
theorem small95 : small 95 = true := by decide
theorem sg_at {r : Int} (h0 : 0 ≤ r) (h1 : r < 95) : ∃ c, atI SG.cps.toList r = some c ∧ c < 1114112 := by
  have hr : r.toNat < SG.cps.toList.length := by rw [sg_cps]; omega
  refine ⟨SG.cps.toList[r.toNat], ?_, of_decide_eq_true (List.all_eq_true.mp sg_all _ (List.getElem_mem hr))⟩
  unfold atI ixN
  rw [if_pos h0, if_pos (by rw [sg_cps]; exact h1)]
  exact List.getElem?_eq_getElem hr
def St (d : D) (way : Int) (w : Str) (t : Option SV) : SS := [some (.bw d), some (.sh (.int way)), some (.sh (.str w)), some (.sh (.str SG)), t, none]
def Fr (t : Option SV) : Prop := t = none ∨ ∃ v, t = some (.sh v)
def body : M Out := (mAsg (mOp gAdd (mVar 2) (mOp gIx (mVar 3) (mFnB 0 f_law_roll (mCons (mIf (mB (mOp gLt (mVar 1) (mC (.int 3)))) (mC (.int 26)) (mCall gLen (mCons (mVar 3) mNil))) mNil)))) (mSet 2))
theorem small1 {c : Nat} {k : Nat} {w : Str} (h : GoodN k w) (hk : k ≤ 1000) : small (w.length + Str.length ⟨#[c]⟩) = true := small_of (by
  have := h.1
  have e : Str.length ⟨#[c]⟩ = 1 := rfl
  omega)
theorem body_ok {n k : Nat} {d : D} {way : Int} {w : Str} {t : Option SV} (h : DOk n d) (hn : n ≤ 2 ^ 60) (hw : GoodN k w) (hk : k ≤ 1000) : ∃ d' w', body (St d way w t) = some (.nx, St d' way w' t) ∧ DOk (n + 1) d' ∧ GoodN (k + 1) w' := by
  by_cases q : way < 3
  · obtain ⟨r, d', e, h1, h2, h3⟩ := roll_ok (t := 26) h hn (by decide) (by decide)
    obtain ⟨c, ec, hc⟩ := sg_at h1 (by omega)
    refine ⟨d', w ++ ⟨#[c]⟩, ?_, h3, hw.add (goodN_sign hc)⟩
    simp [body, St, q, own1, putO, e_roll, e, sg_small, ec, free1, small1 hw hk]
  · obtain ⟨r, d', e, h1, h2, h3⟩ := roll_ok (t := 95) h hn (by decide) (by decide)
    obtain ⟨c, ec, hc⟩ := sg_at h1 h2
    refine ⟨d', w ++ ⟨#[c]⟩, ?_, h3, hw.add (goodN_sign hc)⟩
    simp [body, St, q, own1, putO, e_roll, e, sg_small, sg_len, small95, ec, free1, small1 hw hk]
theorem loop_ok (way : Int) : ∀ (ds : List D) (n k : Nat) (d : D) (w : Str) (t : Option SV), DOk n d → n + ds.length ≤ 2 ^ 60 → GoodN k w → k + ds.length ≤ 1000 → Fr t → ∃ d' w' t', mLoop (mSet 4) body ds (St d way w t) = some (.nx, St d' way w' t') ∧ DOk (n + ds.length) d' ∧ GoodN (k + ds.length) w'
  | [], n, k, d, w, t, h, hn, hw, hk, hf => ⟨d, w, t, rfl, h, hw⟩
  | v :: ds, n, k, d, w, t, h, hn, hw, hk, hf => by
    rw [List.length_cons] at hn hk
    obtain ⟨d1, w1, e1, h1, h2⟩ := body_ok (way := way) (t := some (.sh v)) h (by omega) hw (by omega)
    obtain ⟨d2, w2, t2, e2, h3, h4⟩ := loop_ok way ds (n + 1) (k + 1) d1 w1 (some (.sh v)) h1 (by omega) h2 (by omega) (.inr ⟨v, rfl⟩)
    refine ⟨d2, w2, t2, ?_, by rw [List.length_cons, show n + (ds.length + 1) = n + 1 + ds.length by omega]; exact h3, by rw [List.length_cons, show k + (ds.length + 1) = k + 1 + ds.length by omega]; exact h4⟩
    rw [ev_loop, ev_set]
    have fr : free1 (St d way w t) 4 = true := by
      rcases hf with rfl | ⟨v, rfl⟩ <;> rfl
    rw [if_pos fr, show (St d way w t).set 4 (some (.sh v)) = St d way w (some (.sh v)) from rfl, Option.bind_some, e1]
    exact e2
end K01
namespace K01
open PySem PySem.Spec L2 SK SKQ
def t1 : M Out := (mSeq (mAsg (mFnB 0 f_law_roll (mCons (mOp gAdd (mCall gLen (mCons (mVar 2) mNil)) (mC (.int 1))) mNil)) (mSet 5))
    (mAsg (mOp gAdd (mOp gAdd (mSl (mVar 2) (mPure none) (mPart (mVar 5))) (mOp gIx (mVar 3) (mFnB 0 f_law_roll (mCons (mCall gLen (mCons (mVar 3) mNil)) mNil)))) (mSl (mVar 2) (mPart (mOp gAdd (mVar 5) (mC (.int 1)))) (mPure none))) (mSet 2)))
def t2 : M Out := (mSeq (mAsg (mFnB 0 f_law_one_of (mCons (mLst (mCons (mC (.str "failed")) (mCons (mC (.str "kept")) (mCons (mC (.str "skipped")) (mCons (mC (.str "undone")) mNil))))) mNil)) (mSet 2))
    (mSeq (mAsg (mFnB 0 f_law_roll (mCons (mOp gAdd (mCall gLen (mCons (mVar 2) mNil)) (mC (.int 1))) mNil)) (mSet 5))
    (mAsg (mOp gAdd (mOp gAdd (mSl (mVar 2) (mPure none) (mPart (mVar 5))) (mFnB 0 f_law_one_of (mCons (mLst (mCons (mC (.str "")) (mCons (mC (.str "s")) (mCons (mC (.str "d")) (mCons (mC (.str "K")) mNil))))) mNil))) (mSl (mVar 2) (mPart (mOp gAdd (mVar 5) (mFnB 0 f_law_roll (mCons (mC (.int 2)) mNil)))) (mPure none))) (mSet 2))))
def tl : M Out := (mSeq (mIf (mB (mOp gEq (mVar 1) (mC (.int 1)))) t1 (mPure .nx))
    (mSeq (mIf (mB (mOp gEq (mVar 1) (mC (.int 2)))) t2 (mPure .nx))
    (mRet (mVar 2))))
theorem small_add {j k : Nat} {s t : Str} (h : GoodN j s) (h' : GoodN k t) (q : j + k ≤ 100000) : small (s.length + t.length) = true := small_of (by have := h.1; have := h'.1; omega)
def St2 (d : D) (way : Int) (w : Str) (t u : Option SV) : SS := [some (.bw d), some (.sh (.int way)), some (.sh (.str w)), some (.sh (.str SG)), t, u]
theorem t1_ok {n : Nat} {d : D} {way : Int} {w : Str} {t : Option SV} (h : DOk n d) (hn : n ≤ 2 ^ 50) (hw : GoodN 1000 w) : ∃ d' w' u', t1 (St d way w t) = some (.nx, St2 d' way w' t u') ∧ DOk (n + 2) d' ∧ GoodN 3000 w' := by
  obtain ⟨r, d1, e1, h1, h2, h3⟩ := roll_ok (t := (w.length : Int) + 1) h (by omega) (by omega) (Int.lt_of_le_of_lt (b := 2000) (by have := hw.1; omega) (by decide))
  obtain ⟨r2, d2, e2, h4, h5, h6⟩ := roll_ok (t := 95) h3 (by omega) (by decide) (by decide)
  obtain ⟨c, ec, hc⟩ := sg_at h4 h5
  have g1 : GoodN 1000 (cutS w none (some r)) := goodN_cut hw
  have g2 : GoodN 1000 (cutS w (some (r + 1)) none) := goodN_cut hw
  have g3 := goodN_sign hc
  refine ⟨d2, _, some (.sh (.int r)), ?_, h6, ((g1.add g3).add g2).imp (fun x => by omega) id⟩
  have s1 := small_add g1 g3 (by decide)
  have s2 := small_add (g1.add g3) g2 (by decide)
  have s3 := hw.small (by decide)
  simp [t1, St, St2, own1, putO, e_roll, e1, e2, sg_small, sg_len, small95, ec, free1, s1, s2, s3]
def FW : List D := [.str "failed", .str "kept", .str "skipped", .str "undone"]
def FX : List D := [.str "", .str "s", .str "d", .str "K"]
def gsB (k : Nat) (d : D) : Bool := match d with
  | .str s => decide (s.length ≤ k) && s.cps.toList.all fun c => decide (c < 1114112)
  | _ => false
theorem gsB_of {k : Nat} {d : D} (h : gsB k d = true) : ∃ s, d = .str s ∧ GoodN k s := by
  unfold gsB at h
  split at h
  · rename_i s
    simp only [Bool.and_eq_true, decide_eq_true_eq, List.all_eq_true] at h
    exact ⟨s, rfl, h.1, h.2⟩
  · cases h
theorem fw_all : FW.all (gsB 8) = true := by decide +kernel
theorem fx_all : FX.all (gsB 1) = true := by decide +kernel
theorem t2_ok {n : Nat} {d : D} {way : Int} {w : Str} {t : Option SV} (h : DOk n d) (hn : n ≤ 2 ^ 50) : ∃ d' w' u', t2 (St d way w t) = some (.nx, St2 d' way w' t u') ∧ DOk (n + 4) d' ∧ GoodN 3000 w' := by
  obtain ⟨x, d1, e1, h1, h2⟩ := one_of_ok (xs := FW) h (by omega) (by intro z; cases z) (by decide)
  obtain ⟨v, rfl, hv⟩ := gsB_of (List.all_eq_true.mp fw_all x h1)
  obtain ⟨r, d2, e2, h3, h4, h5⟩ := roll_ok (t := (v.length : Int) + 1) h2 (by omega) (by omega) (Int.lt_of_le_of_lt (b := 2000) (by have := hv.1; omega) (by decide))
  obtain ⟨y, d3, e3, h6, h7⟩ := one_of_ok (xs := FX) h5 (by omega) (by intro z; cases z) (by decide)
  obtain ⟨y, rfl, hy⟩ := gsB_of (List.all_eq_true.mp fx_all y h6)
  obtain ⟨r2, d4, e4, h8, h9, h10⟩ := roll_ok (t := 2) h7 (by omega) (by decide) (by decide)
  have g1 : GoodN 8 (cutS v none (some r)) := goodN_cut hv
  have g2 : GoodN 8 (cutS v (some (r + r2)) none) := goodN_cut hv
  refine ⟨d4, _, some (.sh (.int r)), ?_, h10, ((g1.add hy).add g2).imp (fun x => by omega) id⟩
  have s1 := small_add g1 hy (by decide)
  have s2 := small_add (g1.add hy) g2 (by decide)
  have s3 := hv.small (by decide)
  have a1 : ([D.str "failed", .str "kept", .str "skipped", .str "undone"] : List D) = FW := rfl
  have a2 : ([D.str "", .str "s", .str "d", .str "K"] : List D) = FX := rfl
  have f1 : small FW.length = true := by decide
  have f2 : small FX.length = true := by decide
  simp [t2, St, St2, own1, putO, e_roll, e_one, a1, a2, f1, f2, e1, e2, e3, e4, small4, free1, s1, s2, s3]
theorem tl_ok {n : Nat} {d : D} {way : Int} {w : Str} {t : Option SV} (h : DOk n d) (hn : n ≤ 2 ^ 50) (hw : GoodN 1000 w) : ∃ d' w' u', tl (St d way w t) = some (.rt (.str w'), St2 d' way w' t u') ∧ DOk (n + 4) d' ∧ GoodN 3000 w' := by
  by_cases q1 : way = 1
  · obtain ⟨d', w', u', e, h1, h2⟩ := t1_ok (way := way) (t := t) h hn hw
    refine ⟨d', w', u', ?_, h1.up (by omega), h2⟩
    subst q1
    unfold tl
    rw [ev_seq, ev_if]
    simp only [ev_B, ev_op, ev_C, ev_var]
    rw [show (St d 1 w t)[1]? = some (some (.sh (.int 1))) from rfl]
    simp only [Option.bind_some, gEq_int, Option.map_some, asB_bl, decide_true, if_true]
    rw [e]
    simp [St2]
  · by_cases q2 : way = 2
    · obtain ⟨d', w', u', e, h1, h2⟩ := t2_ok (way := way) (w := w) (t := t) h hn
      refine ⟨d', w', u', ?_, h1, h2⟩
      subst q2
      have e0 : tl (St d 2 w t) = (t2 (St d 2 w t)).bind fun p => match p.1 with
        | .nx => mRet (mVar 2) p.2
        | o => some (o, p.2) := by
        unfold tl
        simp [St]
        try rfl
      rw [e0, e]
      simp [St2]
    · refine ⟨d, w, none, ?_, h.up (by omega), hw.imp (fun x => by omega) id⟩
      simp [tl, St, St2, q1, q2]
theorem rng_len (n : Nat) : (rngD 0 n).length = n := by simp [rngD]
theorem word_split : m_law_word = mSeq (mPar3 1 2 3 (mCons (mFnB 0 f_law_roll (mCons (mC (.int 4)) mNil)) (mCons (mC (.str "")) (mCons (mCall f_law_signs mNil) mNil)))) (mSeq (mFor (mRange1 (mCons (mFnB 0 f_law_roll (mCons (mC (.int 11)) mNil)) mNil)) (mSet 4) body) tl) := rfl
theorem good_nil : GoodN 0 ("" : Str) := ⟨Nat.le_refl _, fun c hc => by cases hc⟩
theorem word_ok {n : Nat} {d : D} (h : DOk n d) (hn : n ≤ 2 ^ 40) : ∃ w d', f_law_word d [] = some (.str w, d') ∧ GoodN 3000 w ∧ DOk (n + 20) d' := by
  obtain ⟨way, d1, e1, h1, h2, h3⟩ := roll_ok (t := 4) h (by omega) (by decide) (by decide)
  obtain ⟨r, d2, e2, h4, h5, h6⟩ := roll_ok (t := 11) h3 (by omega) (by decide) (by decide)
  have hr : r.toNat ≤ 10 := by omega
  obtain ⟨d3, w3, t3, e3, h7, h8⟩ := loop_ok way (rngD 0 r.toNat) (n + 1 + 1) 0 d2 "" none h6 (by rw [rng_len]; omega) good_nil (by rw [rng_len]; omega) (.inl rfl)
  rw [rng_len] at h7 h8
  obtain ⟨d4, w4, u4, e4, h9, h10⟩ := tl_ok (way := way) (t := t3) h7 (by omega) (h8.imp (fun x => by omega) id)
  refine ⟨w4, d4, ?_, h10, h9.up (by omega)⟩
  have hb : -(2 ^ 62) ≤ r ∧ r < 2 ^ 62 := by omega
  have a : mPar3 1 2 3 (mCons (mFnB 0 f_law_roll (mCons (mC (.int 4)) mNil)) (mCons (mC (.str "")) (mCons (mCall f_law_signs mNil) mNil))) (startB N_law_word d []) = some (.nx, St d1 way "" none) := by
    simp [startB, N_law_word, own1, putO, e_roll, e1, signs_ok, free1, St]
  have b : mRange1 (mCons (mFnB 0 f_law_roll (mCons (mC (.int 11)) mNil)) mNil) (St d1 way "" none) = some (rngD 0 r.toNat, St d2 way "" none) := by
    simp [St, own1, putO, e_roll, e2, gRange1]
    omega
  unfold f_law_word runB
  rw [word_split, ev_seq, a]
  simp only [Option.bind_some]
  rw [ev_seq, ev_for, b]
  simp only [Option.bind_some]
  rw [e3]
  simp only [Option.bind_some]
  rw [e4]
  rfl
end K01
namespace K01
open PySem PySem.Spec L2 SK SKQ
theorem okVal_str {k : Nat} {s : Str} (h : GoodN k s) (hk : k ≤ 100000) : OkVal (.str s) := ⟨⟨_, rfl⟩, fun z e => by cases e; exact ⟨Nat.le_trans h.1 hk, h.2⟩⟩
def rb : M Out := (mIf (mB (mOp gNe (mCall gRepr (mCons (mLst (mCons (mCall f_is_name (mCons (mVar 1) mNil)) (mCons (mCall f_is_answer (mCons (mVar 1) mNil)) mNil))) mNil)) (mCall gRepr (mCons (mLst (mCons (mCall f_law_is_name (mCons (mVar 1) mNil)) (mCons (mCall f_law_is_answer (mCons (mVar 1) mNil)) mNil))) mNil)))) (mRet (mC (.bl false))) (mPure .nx))
theorem rb_ok {d v : D} (h : OkVal v) : rb [some (.bw d), some (.sh v)] = some (.nx, [some (.bw d), some (.sh v)]) := by
  have s2 : small 2 = true := by decide
  have r := rep2 (isN v) (isA v)
  simp [rb, name_ok h, ans_ok h, own_ok h, own_ans_ok h, s2, r]
theorem rl_ok (d : D) : ∀ (vs : List D) (t : Option SV), (∀ v ∈ vs, OkVal v) → Fr t → ∃ t', mLoop (mSet 1) rb vs [some (.bw d), t] = some (.nx, [some (.bw d), t'])
  | [], t, _, _ => ⟨t, rfl⟩
  | v :: vs, t, h, hf => by
    obtain ⟨t', e⟩ := rl_ok d vs (some (.sh v)) (fun x hx => h x (List.mem_cons_of_mem _ hx)) (.inr ⟨v, rfl⟩)
    refine ⟨t', ?_⟩
    rw [ev_loop, ev_set]
    have fr : free1 [some (SV.bw d), t] 1 = true := by
      rcases hf with rfl | ⟨v, rfl⟩ <;> rfl
    rw [if_pos fr, show ([some (SV.bw d), t] : SS).set 1 (some (.sh v)) = [some (.bw d), some (.sh v)] from rfl, Option.bind_some, rb_ok (h v List.mem_cons_self)]
    exact e
theorem right_split : m_law_right = mSeq (mFor (mIter (mTup (mCons (mFnB 0 f_law_word mNil) (mCons (mFnB 0 f_law_word mNil) (mCons (mFnB 0 f_law_odd mNil) (mCons (mFnB 0 f_law_one_of (mCons (mCall gList (mCons (mC c_RESERVED) mNil)) mNil)) mNil)))))) (mSet 1) rb) (mRet (mC (.bl true))) := rfl
theorem right_ok {n : Nat} {d : D} (h : DOk n d) (hn : n ≤ 2 ^ 30) : ∃ d', f_law_right d [] = some (.bl true, d') ∧ DOk (n + 50) d' := by
  obtain ⟨w1, d1, e1, g1, h1⟩ := word_ok h (by omega)
  obtain ⟨w2, d2, e2, g2, h2⟩ := word_ok h1 (by omega)
  obtain ⟨x, d3, e3, g3, h3⟩ := odd_ok h2 (by omega)
  obtain ⟨y, d4, e4, g4, h4⟩ := one_of_ok (xs := FW) h3 (by omega) (by intro z; cases z) (by decide)
  obtain ⟨v, rfl, hv⟩ := gsB_of (List.all_eq_true.mp fw_all y g4)
  obtain ⟨t', e⟩ := rl_ok d4 [.str w1, .str w2, x, .str v] none (by
    intro z hz
    simp only [List.mem_cons, List.not_mem_nil, or_false] at hz
    rcases hz with rfl | rfl | rfl | rfl
    · exact okVal_str g1 (by decide)
    · exact okVal_str g2 (by decide)
    · exact g3
    · exact okVal_str hv (by decide)) (.inl rfl)
  refine ⟨d4, ?_, h4.up (by omega)⟩
  have gl : gList [c_RESERVED] = some (.lst FW) := rfl
  have a : mIter (mTup (mCons (mFnB 0 f_law_word mNil) (mCons (mFnB 0 f_law_word mNil) (mCons (mFnB 0 f_law_odd mNil) (mCons (mFnB 0 f_law_one_of (mCons (mCall gList (mCons (mC c_RESERVED) mNil)) mNil)) mNil))))) (startB N_law_right d []) = some ([.str w1, .str w2, x, .str v], [some (.bw d4), none]) := by
    simp [startB, N_law_right, own1, putO, e1, e2, e3, e_one, e4, gl, small4]
  unfold f_law_right runB
  rw [right_split, ev_seq, ev_for, a]
  simp only [Option.bind_some]
  rw [e]
  rfl
/-! ### the law -/
def ib : M Out := (mIf (mNot (mB (mFnB 4 f_law_right mNil))) (mRet (mC (.bl false))) (mPure .nx))
def LS (ns : List Int) (at_ : Option SV) (dc : Option SV) (t : Option SV) : SS := [some (.sh (.scr ns)), at_, none, none, dc, t, none, none]
theorem il_ok (ns : List Int) (a : Option SV) : ∀ (vs : List D) (n : Nat) (d : D) (t : Option SV), DOk n d → n + 50 * vs.length ≤ 2 ^ 30 → Fr t → ∃ d' t', mLoop (mSet 5) ib vs (LS ns a (some (.ow d)) t) = some (.nx, LS ns a (some (.ow d')) t') ∧ Fr t'
  | [], n, d, t, _, _, hf => ⟨d, t, rfl, hf⟩
  | v :: vs, n, d, t, h, hn, hf => by
    rw [List.length_cons] at hn
    obtain ⟨d1, e1, h1⟩ := right_ok h (by omega)
    obtain ⟨d', t', e, hf'⟩ := il_ok ns a vs (n + 50) d1 (some (.sh v)) h1 (by omega) (.inr ⟨v, rfl⟩)
    refine ⟨d', t', ?_, hf'⟩
    rw [ev_loop, ev_set]
    have fr : free1 (LS ns a (some (.ow d)) t) 5 = true := by
      rcases hf with rfl | ⟨v, rfl⟩ <;> rfl
    have eb : ib (LS ns a (some (.ow d)) (some (.sh v))) = some (.nx, LS ns a (some (.ow d1)) (some (.sh v))) := by
      simp [ib, LS, own1, putO, e1]
    rw [if_pos fr, show (LS ns a (some (.ow d)) t).set 5 (some (.sh v)) = LS ns a (some (.ow d)) (some (.sh v)) from rfl, Option.bind_some, eb]
    exact e
def ob : M Out := (mSeq (mAsgO (mCall f_law_dice (mCons (mVar 0) (mCons (mVar 1) mNil))) 4)
    (mFor (mRange1 (mCons (mC (.int 12)) mNil)) (mSet 5) ib))
def FrO (t : Option SV) : Prop := t = none ∨ ∃ v, t = some (.ow v)
theorem ol_ok (ns : List Int) : ∀ (vs : List D) (a dc t : Option SV), (∀ v ∈ vs, ∃ k : Int, v = .int k ∧ 0 ≤ k ∧ k < 100) → Fr a → FrO dc → Fr t → ∃ a' dc' t', mLoop (mSet 1) ob vs (LS ns a dc t) = some (.nx, LS ns a' dc' t') ∧ Fr a' ∧ FrO dc' ∧ Fr t'
  | [], a, dc, t, _, h1, h2, h3 => ⟨a, dc, t, rfl, h1, h2, h3⟩
  | v :: vs, a, dc, t, h, h1, h2, h3 => by
    obtain ⟨k, rfl, k0, k1⟩ := h v List.mem_cons_self
    obtain ⟨d, ed, hd⟩ := dice_ok (ns := ns) k0 k1
    obtain ⟨d1, t1, e1, hf1⟩ := il_ok ns (some (.sh (.int k))) (rngD 0 12) 0 d t hd (by rw [rng_len]; decide) h3
    obtain ⟨a', dc', t', e, r1, r2, r3⟩ := ol_ok ns vs (some (.sh (.int k))) (some (.ow d1)) t1 (fun x hx => h x (List.mem_cons_of_mem _ hx)) (.inr ⟨_, rfl⟩) (.inr ⟨_, rfl⟩) hf1
    refine ⟨a', dc', t', ?_, r1, r2, r3⟩
    rw [ev_loop, ev_set]
    have fr : free1 (LS ns a dc t) 1 = true := by
      rcases h1 with rfl | ⟨v, rfl⟩ <;> rfl
    have eb : ob (LS ns (some (.sh (.int k))) dc t) = some (.nx, LS ns (some (.sh (.int k))) (some (.ow d1)) t1) := by
      have f4 : free1 (LS ns (some (.sh (.int k))) dc t) 4 = true := by
        rcases h2 with rfl | ⟨v, rfl⟩ <;> rfl
      have x1 : mAsgO (mCall f_law_dice (mCons (mVar 0) (mCons (mVar 1) mNil))) 4 (LS ns (some (.sh (.int k))) dc t) = some (.nx, LS ns (some (.sh (.int k))) (some (.ow d)) t) := by
        rw [ev_asgO]
        rw [show mCall f_law_dice (mCons (mVar 0) (mCons (mVar 1) mNil)) (LS ns (some (.sh (.int k))) dc t) = some (d, LS ns (some (.sh (.int k))) dc t) by simp [LS, e_dice, ed]]
        simp only [Option.bind_some, ev_own, f4, if_true]
        rfl
      have x2 : mRange1 (mCons (mC (.int 12)) mNil) (LS ns (some (.sh (.int k))) (some (.ow d)) t) = some (rngD 0 12, LS ns (some (.sh (.int k))) (some (.ow d)) t) := by
        simp [gRange1]
      unfold ob
      rw [ev_seq, x1]
      simp only [Option.bind_some]
      rw [ev_for, x2]
      exact e1
    rw [if_pos fr, show (LS ns a dc t).set 1 (some (.sh (.int k))) = LS ns (some (.sh (.int k))) dc t from rfl, Option.bind_some, eb]
    exact e
end K01
namespace K01
open PySem PySem.Spec L2 SK SKQ
def WS : List D := [.str "a", .str "z", .str "abcdefgh", .str "abcdefghi", .str "", .str "aB", .str "a1", .str "kept", .str "undones"]
def AS : List D := [.str "failed", .str "kept", .str "skipped", .str "undone", .str "fail", .str "keptt", .str "done"]
def NS : List D := [.int 2, .int 3, .int 40]
theorem ws_all : WS.all goodB = true := by decide +kernel
theorem as_all : AS.all goodB = true := by decide +kernel
theorem m1 : gMulL (.lst [.bl true]) (.int 3) = some (.lst [.bl true, .bl true, .bl true]) := rfl
theorem m2 : gMulL (.lst [.bl false]) (.int 4) = some (.lst [.bl false, .bl false, .bl false, .bl false]) := rfl
theorem m3 : gMulL (.lst [.bl false]) (.int 3) = some (.lst [.bl false, .bl false, .bl false]) := rfl
def LT (ns : List Int) (a w o dc t : Option SV) : SS := [some (.sh (.scr ns)), a, w, o, dc, t, none, none]
theorem lc1 (ns : List Int) (a o dc t : Option SV) : mLc 6 (mIter (mVar 2)) (mPure true) (mCall f_is_name (mCons (mVar 6) mNil)) (LT ns a (some (.sh (.lst WS))) o dc t) = some (.lst (WS.map fun d => .bl (isN d)), LT ns a (some (.sh (.lst WS))) o dc t) := by
  have h := mLc_pure (S := LT ns a (some (.sh (.lst WS))) o dc t) (i := 6) (S0 := LT ns a (some (.sh (.lst WS))) o dc t) (mi := mIter (mVar 2)) (t := mPure true) (e := mCall f_is_name (mCons (mVar 6) mNil)) (tb := fun _ => true) (ev := fun d => .bl (isN d)) (ds := WS)
    (by simp [LT]) rfl (fun d _ => rfl) (fun d hd _ => by simp [LT, name_ok (okVal_of (List.all_eq_true.mp ws_all d hd))]) (by decide +kernel)
  rw [filt_true] at h
  exact h
theorem lc3 (ns : List Int) (a w o dc t : Option SV) : mLc 6 (mIter (mTup (mCons (mC (.str "failed")) (mCons (mC (.str "kept")) (mCons (mC (.str "skipped")) (mCons (mC (.str "undone")) (mCons (mC (.str "fail")) (mCons (mC (.str "keptt")) (mCons (mC (.str "done")) mNil))))))))) (mPure true) (mCall f_is_answer (mCons (mVar 6) mNil)) (LT ns a w o dc t) = some (.lst (AS.map fun d => .bl (isA d)), LT ns a w o dc t) := by
  have s7 : small 7 = true := by decide
  have h := mLc_pure (S := LT ns a w o dc t) (i := 6) (S0 := LT ns a w o dc t) (mi := mIter (mTup (mCons (mC (.str "failed")) (mCons (mC (.str "kept")) (mCons (mC (.str "skipped")) (mCons (mC (.str "undone")) (mCons (mC (.str "fail")) (mCons (mC (.str "keptt")) (mCons (mC (.str "done")) mNil))))))))) (t := mPure true) (e := mCall f_is_answer (mCons (mVar 6) mNil)) (tb := fun _ => true) (ev := fun d => .bl (isA d)) (ds := AS)
    (by simp [LT, s7, AS]) rfl (fun d _ => rfl) (fun d hd _ => by simp [LT, ans_ok (okVal_of (List.all_eq_true.mp as_all d hd))]) (by decide +kernel)
  rw [filt_true] at h
  exact h
def R8 : Int → D
  | 2 => .str "abcdefghabcdefgh"
  | 3 => .str "abcdefghabcdefghabcdefgh"
  | _ => .str ⟨(List.replicate 40 (Str.ofString "abcdefgh").cps.toList).flatten.toArray⟩
theorem r2 : gMulS (.str "abcdefgh") (.int 2) = some (R8 2) := rfl
theorem r3 : gMulS (.str "abcdefgh") (.int 3) = some (R8 3) := rfl
theorem r40 : gMulS (.str "abcdefgh") (.int 40) = some (R8 40) := rfl
theorem r_good : [R8 2, R8 3, R8 40].all goodB = true := by decide +kernel
theorem r_no : [R8 2, R8 3, R8 40].all (fun d => !isN d && !isA d) = true := by decide +kernel
theorem r_in {d : D} (h : d ∈ NS) : ∃ k : Int, d = .int k ∧ gMulS (.str "abcdefgh") (.int k) = some (R8 k) ∧ OkVal (R8 k) ∧ isN (R8 k) = false ∧ isA (R8 k) = false := by
  have hg := List.all_eq_true.mp r_good
  have hn := List.all_eq_true.mp r_no
  have hn' : ∀ x ∈ [R8 2, R8 3, R8 40], isN x = false ∧ isA x = false := fun x hx => by
    have := hn x hx
    simp only [Bool.and_eq_true, Bool.not_eq_true'] at this
    exact this
  simp only [NS, List.mem_cons, List.not_mem_nil, or_false] at h
  rcases h with rfl | rfl | rfl
  · exact ⟨2, rfl, r2, okVal_of (hg _ (by simp)), hn' _ (by simp)⟩
  · exact ⟨3, rfl, r3, okVal_of (hg _ (by simp)), hn' _ (by simp)⟩
  · exact ⟨40, rfl, r40, okVal_of (hg _ (by simp)), hn' _ (by simp)⟩
theorem lc2 (ns : List Int) (a w o dc t : Option SV) : mLc 7 (mIter (mTup (mCons (mC (.int 2)) (mCons (mC (.int 3)) (mCons (mC (.int 40)) mNil))))) (mPure true) (mOrV (mCall f_is_name (mCons (mOp gMul (mC (.str "abcdefgh")) (mVar 7)) mNil)) (mCall f_is_answer (mCons (mOp gMul (mC (.str "abcdefgh")) (mVar 7)) mNil))) (LT ns a w o dc t) = some (.lst (NS.map fun _ => .bl false), LT ns a w o dc t) := by
  have s3 : small 3 = true := by decide
  have h := mLc_pure (S := LT ns a w o dc t) (i := 7) (S0 := LT ns a w o dc t) (mi := mIter (mTup (mCons (mC (.int 2)) (mCons (mC (.int 3)) (mCons (mC (.int 40)) mNil))))) (t := mPure true) (e := mOrV (mCall f_is_name (mCons (mOp gMul (mC (.str "abcdefgh")) (mVar 7)) mNil)) (mCall f_is_answer (mCons (mOp gMul (mC (.str "abcdefgh")) (mVar 7)) mNil))) (tb := fun _ => true) (ev := fun d => .bl false) (ds := NS)
    (by simp [LT, s3, NS]) rfl (fun d _ => rfl) (fun d hd _ => by
      obtain ⟨k, rfl, h1, h2, h3, h4⟩ := r_in hd
      simp [LT, h1, name_ok h2, ans_ok h2, h3, h4]) (by decide +kernel)
  rw [filt_true] at h
  exact h
theorem q1 : gNe (.lst (WS.map fun d => .bl (isN d))) (.lst [.bl true, .bl true, .bl true, .bl false, .bl false, .bl false, .bl false, .bl true, .bl true]) = some (.bl false) := by
  rw [gNe_data rfl (by decide +kernel) (by decide +kernel)]
  rw [show PyData.eqv (toPy (.lst (WS.map fun d => .bl (isN d)))) (toPy (.lst [.bl true, .bl true, .bl true, .bl false, .bl false, .bl false, .bl false, .bl true, .bl true])) = true by decide +kernel]
  rfl
theorem q2 : gNe (.lst (NS.map fun _ => .bl false)) (.lst [.bl false, .bl false, .bl false]) = some (.bl false) := by
  rw [gNe_data rfl (by decide +kernel) (by decide +kernel)]
  rw [show PyData.eqv (toPy (.lst (NS.map fun _ => .bl false))) (toPy (.lst [.bl false, .bl false, .bl false])) = true by decide +kernel]
  rfl
theorem q3 : gEq (.lst (AS.map fun d => .bl (isA d))) (.lst [.bl false, .bl false, .bl false, .bl false, .bl true, .bl true, .bl true]) = some (.bl true) := by
  rw [gEq_data rfl (by decide +kernel) (by decide +kernel)]
  rw [show PyData.eqv (toPy (.lst (AS.map fun d => .bl (isA d)))) (toPy (.lst [.bl false, .bl false, .bl false, .bl false, .bl true, .bl true, .bl true])) = true by decide +kernel]
theorem q4 : gEq c_RESERVED (.tup [.str "failed", .str "kept", .str "skipped", .str "undone"]) = some (.bl true) := by
  rw [gEq_data rfl (by decide +kernel) (by decide +kernel)]
  rw [show PyData.eqv (toPy c_RESERVED) (toPy (.tup [.str "failed", .str "kept", .str "skipped", .str "undone"])) = true by decide +kernel]
def p1 : M Out := (mAsg (mLst (mCons (mC (.str "a")) (mCons (mC (.str "z")) (mCons (mC (.str "abcdefgh")) (mCons (mC (.str "abcdefghi")) (mCons (mC (.str "")) (mCons (mC (.str "aB")) (mCons (mC (.str "a1")) (mCons (mC (.str "kept")) (mCons (mC (.str "undones")) mNil)))))))))) (mSet 2))
def p2 : M Out := (mIf (mB (mOp gNe (mLc 6 (mIter (mVar 2)) (mPure true) (mCall f_is_name (mCons (mVar 6) mNil))) (mOp gAdd (mOp gAdd (mOp gMul (mLst (mCons (mC (.bl true)) mNil)) (mC (.int 3))) (mOp gMul (mLst (mCons (mC (.bl false)) mNil)) (mC (.int 4)))) (mLst (mCons (mC (.bl true)) (mCons (mC (.bl true)) mNil)))))) (mRet (mC (.bl false))) (mPure .nx))
def p3 : M Out := (mIf (mB (mOp gNe (mLc 7 (mIter (mTup (mCons (mC (.int 2)) (mCons (mC (.int 3)) (mCons (mC (.int 40)) mNil))))) (mPure true) (mOrV (mCall f_is_name (mCons (mOp gMul (mC (.str "abcdefgh")) (mVar 7)) mNil)) (mCall f_is_answer (mCons (mOp gMul (mC (.str "abcdefgh")) (mVar 7)) mNil)))) (mOp gMul (mLst (mCons (mC (.bl false)) mNil)) (mC (.int 3))))) (mRet (mC (.bl false))) (mPure .nx))
def p4 : M Out := (mAsg (mLc 6 (mIter (mTup (mCons (mC (.str "failed")) (mCons (mC (.str "kept")) (mCons (mC (.str "skipped")) (mCons (mC (.str "undone")) (mCons (mC (.str "fail")) (mCons (mC (.str "keptt")) (mCons (mC (.str "done")) mNil))))))))) (mPure true) (mCall f_is_answer (mCons (mVar 6) mNil))) (mSet 3))
def p5 : M Out := (mRet (mAndV (mOp gEq (mVar 3) (mOp gAdd (mOp gMul (mLst (mCons (mC (.bl false)) mNil)) (mC (.int 4))) (mOp gMul (mLst (mCons (mC (.bl true)) mNil)) (mC (.int 3))))) (mOp gEq (mC c_RESERVED) (mTup (mCons (mC (.str "failed")) (mCons (mC (.str "kept")) (mCons (mC (.str "skipped")) (mCons (mC (.str "undone")) mNil))))))))
theorem law_split : m_law = mSeq (mFor (mRange1 (mCons (mCall gMax2 (mCons (mC (.int 1)) (mCons (mCall gMin2 (mCons (mC (.int 6)) (mCons (mCall gLen (mCons (mVar 0) mNil)) mNil))) mNil))) mNil)) (mSet 1) ob) (mSeq p1 (mSeq p2 (mSeq p3 (mSeq p4 p5)))) := rfl
theorem s1' : small 1 = true := by decide
theorem s2' : small 2 = true := by decide
theorem s9' : small 9 = true := by decide
theorem p1_ok (ns : List Int) (a o dc t : Option SV) : p1 (LT ns a none o dc t) = some (.nx, LT ns a (some (.sh (.lst WS))) o dc t) := by
  simp [p1, s9', LT, free1, WS]
theorem p2_ok (ns : List Int) (a o dc t : Option SV) : p2 (LT ns a (some (.sh (.lst WS))) o dc t) = some (.nx, LT ns a (some (.sh (.lst WS))) o dc t) := by
  have s7 : small (3 + 4) = true := by decide
  have s9 : small (7 + 2) = true := by decide
  simp [p2, lc1, s1', s2', m1, m2, s7, s9, q1]
theorem p3_ok (ns : List Int) (a w o dc t : Option SV) : p3 (LT ns a w o dc t) = some (.nx, LT ns a w o dc t) := by
  simp [p3, lc2, s1', m3, q2]
theorem p4_ok (ns : List Int) (a w dc t : Option SV) : p4 (LT ns a w none dc t) = some (.nx, LT ns a w (some (.sh (.lst (AS.map fun d => .bl (isA d))))) dc t) := by
  unfold p4
  rw [ev_asg, lc3]
  simp [LT, free1]
theorem p5_ok (ns : List Int) (a w dc t : Option SV) : p5 (LT ns a w (some (.sh (.lst (AS.map fun d => .bl (isA d))))) dc t) = some (.rt (.bl true), LT ns a w (some (.sh (.lst (AS.map fun d => .bl (isA d))))) dc t) := by
  have s7 : small (4 + 3) = true := by decide
  simp [p5, LT, s1', m1, m2, s7, small4, q3, q4]
theorem rng_in {k : Nat} (hk : k ≤ 6) : ∀ v ∈ rngD 0 k, ∃ j : Int, v = .int j ∧ 0 ≤ j ∧ j < 100 := by
  intro v hv
  simp only [rngD, List.mem_map, List.mem_range] at hv
  obtain ⟨j, h1, rfl⟩ := hv
  exact ⟨_, rfl, by omega, by omega⟩
theorem hx_ok (ns : List Int) : ∃ k : Nat, k ≤ 6 ∧ mRange1 (mCons (mCall gMax2 (mCons (mC (.int 1)) (mCons (mCall gMin2 (mCons (mC (.int 6)) (mCons (mCall gLen (mCons (mVar 0) mNil)) mNil))) mNil))) mNil) (LS ns none none none) = some (rngD 0 k, LS ns none none none) := by
  have key : ∀ (j : Int), 0 ≤ j → j ≤ 6 → gRange1 [.int j] = some (rngD 0 j.toNat) := by
    intro j h0 h1
    show (if -(2 ^ 62) ≤ j ∧ j < 2 ^ 62 then some (rngD 0 j.toNat) else none) = _
    rw [if_pos (by omega)]
  have ev : mRange1 (mCons (mCall gMax2 (mCons (mC (.int 1)) (mCons (mCall gMin2 (mCons (mC (.int 6)) (mCons (mCall gLen (mCons (mVar 0) mNil)) mNil))) mNil))) mNil) (LS ns none none none) = (gRange1 [.int (if (if (ns.length : Int) < 6 then (ns.length : Int) else 6) > 1 then (if (ns.length : Int) < 6 then (ns.length : Int) else 6) else 1)]).map fun d => (d, LS ns none none none) := by
    simp only [ev_range1, ev_cons, ev_call, ev_C, ev_nil, ev_var, LS, List.getElem?_cons_zero, Option.bind_some, Option.map_some, gLen_scr, gMin2_int, gMax2_int]
  refine ⟨(if (if (ns.length : Int) < 6 then (ns.length : Int) else 6) > 1 then (if (ns.length : Int) < 6 then (ns.length : Int) else 6) else 1 : Int).toNat, ?_, ?_⟩
  · split <;> split <;> omega
  · rw [ev, key _ (by split <;> split <;> omega) (by split <;> split <;> omega)]
    rfl
theorem run_of {S S' : SS} {d : D} {ds : List D} {N : List Str} {m : M Out} (h : startS N ds = S) (h2 : m S = some (.rt d, S')) : runF N m ds = some d := by
  unfold runF
  rw [h, h2]
  rfl
theorem seq_of {x y : M Out} {S S1 : SS} {r : Option (Out × SS)} (h : x S = some (.nx, S1)) (h2 : y S1 = r) : mSeq x y S = r := by
  rw [ev_seq, h]
  exact h2
theorem for_of {mi : M (List D)} {f : D → M Unit} {x : M Out} {S S1 : SS} {ds : List D} {r : Option (Out × SS)} (h : mi S = some (ds, S1)) (h2 : mLoop f x ds S1 = r) : mFor mi f x S = r := by
  rw [ev_for, h]
  exact h2
theorem tail_ok (ns : List Int) (a dc t : Option SV) : ∃ S', mSeq p1 (mSeq p2 (mSeq p3 (mSeq p4 p5))) (LT ns a none none dc t) = some (.rt (.bl true), S') :=
  ⟨_, seq_of (p1_ok ns a none dc t) (seq_of (p2_ok ns a none dc t) (seq_of (p3_ok ns a _ none dc t) (seq_of (p4_ok ns a _ dc t) (p5_ok ns a _ dc t))))⟩
theorem law_true : ∀ ns : List Int, ns.length ≤ 63 → f_law [.scr ns] = some (.bl true) := by
  intro ns hl
  obtain ⟨k, hk, ek⟩ := hx_ok ns
  obtain ⟨a, dc, t, e, _, _, _⟩ := ol_ok ns (rngD 0 k) none none none (rng_in hk) (.inl rfl) (.inl rfl) (.inl rfl)
  obtain ⟨S', e2⟩ := tail_ok ns a dc t
  have e3 : m_law (LS ns none none none) = some (.rt (.bl true), S') := by
    rw [law_split]
    exact seq_of (for_of ek e) e2
  exact run_of (N := N_law) rfl e3
end K01
namespace K01
open PySem PySem.Spec PyProof.Rows L2 SK
def topS (i : Nat) : Stmt := PySem.Challenge.pw_skipahead_k01_names.main.body.getD i (.Pass ⟨0, 0, 0, 0⟩)
structure Tx (K : PySem.W.Frag) (mg : Str → Option Value) : Prop where
  b_abs : mg "abs" = none
  b_all : mg "all" = none
  b_int : mg "int" = none
  b_isinstance : mg "isinstance" = none
  b_len : mg "len" = none
  b_list : mg "list" = none
  b_max : mg "max" = none
  b_min : mg "min" = none
  b_range : mg "range" = none
  b_repr : mg "repr" = none
  b_str : mg "str" = none
  c_RESERVED : Const1 K mg "RESERVED" c_RESERVED
  c_LETTERS : Const1 K mg "LETTERS" c_LETTERS
  c_MAX_LETTERS : Const1 K mg "MAX_LETTERS" c_MAX_LETTERS
section
variable {P : Program} {w : World} {K : PySem.W.Frag} {mg : Str → Option Value} {base : Heap}
abbrev s_is_name : Stmt := topS 4
theorem sc_is_name : FnScope N_is_name ["value"] (defScope s_is_name) := ⟨rfl, rfl, rfl, by decide +kernel, rfl, by decide +kernel, by decide +kernel⟩
theorem ok_is_name {f : Addr} {fd : FuncData} (T : Tx K mg) (F : Fun K "is_name" "is_name" s_is_name f fd)  : FnG P w K mg base CX0 1 f fd ["value"] (spP K mg 1 f_is_name) := by
  refine fn_pure (m := m_is_name) F sc_is_name rfl fun cd A outer s H E hr hq => ?_
  have hu := hr.units
  exact (dss_cons (ds_if ((dw_or (dt_not (dt_val (de_callB call_isi cd_isi (by rfl) T.b_isinstance bt_isinstance (da_cons (dv 0) (da_cons (de_tyName (by rfl) T.b_str bt_str) da_nil))))) (dw_or1 (dt_not (dt_chain op_le od_le op_le od_le de_int (de_callB call_len cd_len (by rfl) T.b_len bt_len (da_cons (dv 0) da_nil)) (T.c_MAX_LETTERS.de (by rfl))))))).dt (dss_one (ds_ret de_bl)) dss_nil)
      (dss_one (ds_ret (de_callB (cr_all rfl) cd_all (by rfl) T.b_all bt_all (da_cons (de_lc rfl sc_is_name.nd (di_any (dv 0)) (blkOk_by (own := [("sign", 1)]) (N := N_is_name) (sc := defScope s_is_name) (by decide +kernel)) (fun _ _ _ _ _ => pg_name (i := 1) sc_is_name.nd rfl (Or.inl rfl)) (fun _ _ _ _ _ => dts_nil) (fun _ _ _ _ _ => (de_cmp op_inA od_in (dv 1) (T.c_LETTERS.de (by rfl)) (by rfl)))) da_nil)))))
abbrev s_is_answer : Stmt := topS 5
theorem sc_is_answer : FnScope N_is_answer ["value"] (defScope s_is_answer) := ⟨rfl, rfl, rfl, by decide +kernel, rfl, by decide +kernel, by decide +kernel⟩
theorem ok_is_answer {f : Addr} {fd : FuncData} (T : Tx K mg) (F : Fun K "is_answer" "is_answer" s_is_answer f fd) (o_is_name : Ok1 P w K mg base 1 "is_name" ["value"] (spP K mg 1 f_is_name)) : FnG P w K mg base CX0 2 f fd ["value"] (spP K mg 1 f_is_answer) := by
  refine fn_pure (m := m_is_answer) F sc_is_answer rfl fun cd A outer s H E hr hq => ?_
  have hu := hr.units
  exact (dss_one (ds_ret (de_and (de_call1 o_is_name (hr.mono (by decide)) hq (by rfl) (da_cons (dv 0) da_nil)) (de_one (de_cmp op_notInA od_notIn (dv 0) (T.c_RESERVED.de (by rfl)) (by rfl))))))
abbrev s_law_dice : Stmt := topS 7
theorem sc_law_dice : FnScope N_law_dice ["_law_script", "_law_at"] (defScope s_law_dice) := ⟨rfl, rfl, rfl, by decide +kernel, rfl, by decide +kernel, by decide +kernel⟩
theorem ok_law_dice {f : Addr} {fd : FuncData} (T : Tx K mg) (F : Fun K "_law_dice" "_law_dice" s_law_dice f fd)  : FnG P w K mg base CX0 1 f fd ["_law_script", "_law_at"] (spF K mg 2 f_law_dice) := by
  refine fn_new (m := m_law_dice) F sc_law_dice rfl fun cd A outer s H E hr hq => ?_
  have hu := hr.units
  exact (dfs_cons (ds_set (i := 2) sc_law_dice.nd rfl (by first | exact Or.inl rfl | exact Or.inr rfl) (de_op op_addAny od_addAny (de_op op_mulAny od_mulAny de_int (dv 1)) de_int))
      (dfs_cons (ds_if (dt_cmp op_ltA od_lt (dv 1) (de_callB call_len cd_len (by rfl) T.b_len bt_len (da_cons (dv 0) da_nil)) (nomark _)) (dss_one (ds_set (i := 2) sc_law_dice.nd rfl (by first | exact Or.inl rfl | exact Or.inr rfl) (de_ix ix_seq od_ix (dv 0) (dv 1)))) dss_nil)
      (dfs_cons (ds_set (i := 3) sc_law_dice.nd rfl (by first | exact Or.inl rfl | exact Or.inr rfl) (de_op op_mod od_mod (de_callTy call_int1 cd_int (by rfl) T.b_int bt_int (da_cons (de_callB call_abs cd_abs (by rfl) T.b_abs bt_abs (da_cons (dv 2) da_nil)) da_nil)) (de_op op_powW od_pow (de_op op_powW od_pow de_int de_int) de_int)))
      (dfs_cons (ds_set (i := 4) sc_law_dice.nd rfl (by first | exact Or.inl rfl | exact Or.inr rfl) (de_op op_addAny od_addAny (de_op op_addAny od_addAny (de_op op_addAny od_addAny (de_op op_mulAny od_mulAny (de_op op_mod od_mod (de_callTy call_int1 cd_int (by rfl) T.b_int bt_int (da_cons (dv 3) da_nil)) de_int) de_int) (de_op op_mulAny od_mulAny de_int (dv 1))) (de_op op_mulAny od_mulAny de_int (de_callTy call_int1 cd_int (by rfl) T.b_int bt_int (da_cons (de_cmp op_ltA od_lt (dv 2) de_int (nomark _)) da_nil)))) de_int))
      (dfs_ret (df_lst (da_cons (de_callB (call_max2 rfl) cd_max2 (by rfl) T.b_max bt_max (da_cons de_int (da_cons (de_op op_sub od_subAny (dv 3) (de_op op_powW od_pow de_int de_int)) da_nil))) (da_cons (de_op op_mod od_mod (de_callTy call_int1 cd_int (by rfl) T.b_int bt_int (da_cons (dv 4) da_nil)) de_int) (da_cons de_int da_nil)))))))))
abbrev s_law_roll : Stmt := topS 8
theorem sc_law_roll : FnScope N_law_roll ["_law_dice_here", "_law_total"] (defScope s_law_roll) := ⟨rfl, rfl, rfl, by decide +kernel, rfl, by decide +kernel, by decide +kernel⟩
theorem ok_law_roll {f : Addr} {fd : FuncData} (T : Tx K mg) (F : Fun K "_law_roll" "_law_roll" s_law_roll f fd)  : FnG P w K mg base CX0 1 f fd ["_law_dice_here", "_law_total"] (spB K mg 1 f_law_roll) := by
  refine fn_lent (m := m_law_roll) F sc_law_roll rfl fun cd A outer s H E hr hq => ?_
  have hu := hr.units
  exact (dss_cons (ds_if (dt_cmp op_gt od_gt (de_ixO (pv 0) de_int) de_int (nomark _)) (dss_cons (ds_set (i := 4) sc_law_roll.nd rfl (by first | exact Or.inl rfl | exact Or.inr rfl) (de_op op_mod od_mod (de_callTy call_int1 cd_int (by rfl) T.b_int bt_int (da_cons (de_ixO (pv 0) de_int) da_nil)) (dv 1)))
      (dss_cons (ds_storeO (de_op op_fdivW od_div (de_ixO (pv 0) de_int) (dv 1)) (pv 0) de_int)
      (dss_one (ds_ret (dv 4))))) dss_nil)
      (dss_cons (ds_storeO (de_op op_addAny od_addAny (de_ixO (pv 0) de_int) de_int) (pv 0) de_int)
      (dss_cons (ds_set (i := 2) sc_law_roll.nd rfl (by first | exact Or.inl rfl | exact Or.inr rfl) (de_op op_mod od_mod (de_callTy call_int1 cd_int (by rfl) T.b_int bt_int (da_cons (de_op op_addAny od_addAny (de_ixO (pv 0) de_int) (de_op op_mulAny od_mulAny de_int (de_ixO (pv 0) de_int))) da_nil)) de_int))
      (dss_cons (ds_set (i := 3) sc_law_roll.nd rfl (by first | exact Or.inl rfl | exact Or.inr rfl) (de_op op_addAny od_addAny (de_op op_mulAny od_mulAny (de_op op_mod od_mod (de_callTy call_int1 cd_int (by rfl) T.b_int bt_int (da_cons (de_op op_mulAny od_mulAny (dv 2) (dv 2)) da_nil)) de_int) (dv 2)) (de_op op_mulAny od_mulAny de_int (de_ixO (pv 0) de_int))))
      (dss_cons (ds_set (i := 3) sc_law_roll.nd rfl (by first | exact Or.inl rfl | exact Or.inr rfl) (de_op op_mod od_mod (de_callTy call_int1 cd_int (by rfl) T.b_int bt_int (da_cons (dv 3) da_nil)) de_int))
      (dss_one (ds_ret (de_op op_mod od_mod (de_callTy call_int1 cd_int (by rfl) T.b_int bt_int (da_cons (de_op op_fdivW od_div (dv 3) de_int) da_nil)) (dv 1)))))))))
abbrev s_law_one_of : Stmt := topS 9
theorem sc_law_one_of : FnScope N_law_one_of ["_law_dice_here", "_law_items"] (defScope s_law_one_of) := ⟨rfl, rfl, rfl, by decide +kernel, rfl, by decide +kernel, by decide +kernel⟩
theorem ok_law_one_of {f : Addr} {fd : FuncData} (T : Tx K mg) (F : Fun K "_law_one_of" "_law_one_of" s_law_one_of f fd) (o_law_roll : Ok1 P w K mg base 1 "_law_roll" ["_law_dice_here", "_law_total"] (spB K mg 1 f_law_roll)) : FnG P w K mg base CX0 2 f fd ["_law_dice_here", "_law_items"] (spB K mg 1 f_law_one_of) := by
  refine fn_lent (m := m_law_one_of) F sc_law_one_of rfl fun cd A outer s H E hr hq => ?_
  have hu := hr.units
  exact (dss_one (ds_ret (de_ix ix_seq od_ix (dv 1) (de_callB1 o_law_roll (hr.mono (by decide)) hq (by rfl) (pv 0) (da_cons (de_callB call_len cd_len (by rfl) T.b_len bt_len (da_cons (dv 1) da_nil)) da_nil)))))
abbrev s_law_odd : Stmt := topS 10
theorem sc_law_odd : FnScope N_law_odd ["_law_dice_here"] (defScope s_law_odd) := ⟨rfl, rfl, rfl, by decide +kernel, rfl, by decide +kernel, by decide +kernel⟩
theorem ok_law_odd {f : Addr} {fd : FuncData} (T : Tx K mg) (F : Fun K "_law_odd" "_law_odd" s_law_odd f fd) (o_law_one_of : Ok1 P w K mg base 2 "_law_one_of" ["_law_dice_here", "_law_items"] (spB K mg 1 f_law_one_of)) : FnG P w K mg base CX0 3 f fd ["_law_dice_here"] (spB K mg 0 f_law_odd) := by
  refine fn_lent (m := m_law_odd) F sc_law_odd rfl fun cd A outer s H E hr hq => ?_
  have hu := hr.units
  exact (dss_cons (ds_set (i := 1) sc_law_odd.nd rfl (by first | exact Or.inl rfl | exact Or.inr rfl) (de_lst (da_cons de_non (da_cons de_bl (da_cons de_bl (da_cons de_int (da_cons de_int (da_cons (de_un un_neg ud_neg de_int) (da_cons de_int (da_cons de_int (da_cons (de_op op_powW od_pow de_int de_int) (da_cons de_str (da_cons de_str (da_cons de_str (da_cons de_str (da_cons de_str (da_cons de_str (da_cons de_str da_nil))))))))))))))))))
      (dss_cons (ds_set (i := 1) sc_law_odd.nd rfl (by first | exact Or.inl rfl | exact Or.inr rfl) (de_op op_addAny od_addAny (dv 1) (de_lst (da_cons de_str (da_cons de_str (da_cons de_str (da_cons de_str (da_cons de_str (da_cons (de_tup da_nil) (da_cons (de_lst da_nil) (da_cons de_dict0 (da_cons (de_tup (da_cons de_str da_nil)) (da_cons (de_lst (da_cons de_str da_nil)) (da_cons (de_disp (dps_cons de_str de_int dps_nil)) (da_cons (de_tup (da_cons (de_tup da_nil) da_nil)) (da_cons (de_tup (da_cons de_non da_nil)) da_nil))))))))))))))))
      (dss_cons (ds_set (i := 1) sc_law_odd.nd rfl (by first | exact Or.inl rfl | exact Or.inr rfl) (de_op op_addAny od_addAny (dv 1) (de_lst (da_cons (de_tup (da_cons de_str da_nil)) (da_cons (de_tup (da_cons de_str da_nil)) da_nil)))))
      (dss_one (ds_ret (de_callB1 o_law_one_of (hr.mono (by decide)) hq (by rfl) (pv 0) (da_cons (dv 1) da_nil)))))))
abbrev s_law_is_name : Stmt := topS 11
theorem sc_law_is_name : FnScope N_law_is_name ["_law_value"] (defScope s_law_is_name) := ⟨rfl, rfl, rfl, by decide +kernel, rfl, by decide +kernel, by decide +kernel⟩
theorem ok_law_is_name {f : Addr} {fd : FuncData} (T : Tx K mg) (F : Fun K "_law_is_name" "_law_is_name" s_law_is_name f fd)  : FnG P w K mg base CX0 1 f fd ["_law_value"] (spP K mg 1 f_law_is_name) := by
  refine fn_pure (m := m_law_is_name) F sc_law_is_name rfl fun cd A outer s H E hr hq => ?_
  have hu := hr.units
  exact (dss_cons (ds_if ((dw_or (dt_not (dt_val (de_callB call_isi cd_isi (by rfl) T.b_isinstance bt_isinstance (da_cons (dv 0) (da_cons (de_tyName (by rfl) T.b_str bt_str) da_nil))))) (dw_or1 (dt_not (dt_chain op_le od_le op_le od_le de_int (de_callB call_len cd_len (by rfl) T.b_len bt_len (da_cons (dv 0) da_nil)) de_int))))).dt (dss_one (ds_ret de_bl)) dss_nil)
      (dss_one (ds_ret (de_cmp (op_eqA hu) od_eq (de_lc rfl sc_law_is_name.nd (di_any (dv 0)) (blkOk_by (own := [("_law_sign", 1)]) (N := N_law_is_name) (sc := defScope s_law_is_name) (by decide +kernel)) (fun _ _ _ _ _ => pg_name (i := 1) sc_law_is_name.nd rfl (Or.inl rfl)) (fun _ _ _ _ _ => (dts_one (dt_cmp op_notInA od_notIn (dv 1) de_str (by rfl)))) (fun _ _ _ _ _ => (dv 1))) (de_lst da_nil) (nomark _)))))
abbrev s_law_is_answer : Stmt := topS 12
theorem sc_law_is_answer : FnScope N_law_is_answer ["_law_value"] (defScope s_law_is_answer) := ⟨rfl, rfl, rfl, by decide +kernel, rfl, by decide +kernel, by decide +kernel⟩
theorem ok_law_is_answer {f : Addr} {fd : FuncData} (T : Tx K mg) (F : Fun K "_law_is_answer" "_law_is_answer" s_law_is_answer f fd) (o_law_is_name : Ok1 P w K mg base 1 "_law_is_name" ["_law_value"] (spP K mg 1 f_law_is_name)) : FnG P w K mg base CX0 2 f fd ["_law_value"] (spP K mg 1 f_law_is_answer) := by
  refine fn_pure (m := m_law_is_answer) F sc_law_is_answer rfl fun cd A outer s H E hr hq => ?_
  have hu := hr.units
  exact (dss_one (ds_ret (de_and (de_call1 o_law_is_name (hr.mono (by decide)) hq (by rfl) (da_cons (dv 0) da_nil)) (de_one (de_cmp op_notInA od_notIn (dv 0) (de_tup (da_cons de_str (da_cons de_str (da_cons de_str (da_cons de_str da_nil))))) (by rfl))))))
abbrev s_law_signs : Stmt := topS 13
theorem sc_law_signs : FnScope N_law_signs [] (defScope s_law_signs) := ⟨rfl, rfl, rfl, by decide +kernel, rfl, by decide +kernel, by decide +kernel⟩
theorem ok_law_signs {f : Addr} {fd : FuncData} (T : Tx K mg) (F : Fun K "_law_signs" "_law_signs" s_law_signs f fd)  : FnG P w K mg base CX0 1 f fd [] (spP K mg 0 f_law_signs) := by
  refine fn_pure (m := m_law_signs) F sc_law_signs rfl fun cd A outer s H E hr hq => ?_
  have hu := hr.units
  exact (dss_cons (ds_set (i := 0) sc_law_signs.nd rfl (by first | exact Or.inl rfl | exact Or.inr rfl) de_str)
      (dss_one (ds_ret (de_op op_addAny od_addAny (de_op op_addAny od_addAny (de_op op_addAny od_addAny (de_op op_addAny od_addAny (dv 0) de_str) de_str) de_str) de_str))))
abbrev s_law_word : Stmt := topS 14
theorem sc_law_word : FnScope N_law_word ["_law_dice_here"] (defScope s_law_word) := ⟨rfl, rfl, rfl, by decide +kernel, rfl, by decide +kernel, by decide +kernel⟩
theorem ok_law_word {f : Addr} {fd : FuncData} (T : Tx K mg) (F : Fun K "_law_word" "_law_word" s_law_word f fd) (o_law_one_of : Ok1 P w K mg base 2 "_law_one_of" ["_law_dice_here", "_law_items"] (spB K mg 1 f_law_one_of)) (o_law_roll : Ok1 P w K mg base 1 "_law_roll" ["_law_dice_here", "_law_total"] (spB K mg 1 f_law_roll)) (o_law_signs : Ok1 P w K mg base 1 "_law_signs" [] (spP K mg 0 f_law_signs)) : FnG P w K mg base CX0 3 f fd ["_law_dice_here"] (spB K mg 0 f_law_word) := by
  refine fn_lent (m := m_law_word) F sc_law_word rfl fun cd A outer s H E hr hq => ?_
  have hu := hr.units
  exact (dss_cons (ds_par3 (i := 1) (j := 2) (l := 3) rfl sc_law_word.nd rfl rfl rfl (by decide) (by decide) (by decide) rfl rfl rfl (da_cons (de_callB1 o_law_roll (hr.mono (by decide)) hq (by rfl) (pv 0) (da_cons de_int da_nil)) (da_cons de_str (da_cons (de_call10 o_law_signs (hr.mono (by decide)) hq (by rfl)) da_nil))) (by rfl))
      (dss_cons (ds_for PassesOwn.never rfl (di_range1 (by rfl) T.b_range (da_cons (de_callB1 o_law_roll (hr.mono (by decide)) hq (by rfl) (pv 0) (da_cons de_int da_nil)) da_nil)) (dg_name (i := 4) sc_law_word.nd rfl (by first | exact Or.inl rfl | exact Or.inr rfl)) (dss_one (ds_set (i := 2) sc_law_word.nd rfl (by first | exact Or.inl rfl | exact Or.inr rfl) (de_op op_addAny od_addAny (dv 2) (de_ix ix_seq od_ix (dv 3) (de_callB1 o_law_roll (hr.mono (by decide)) hq (by rfl) (pv 0) (da_cons (de_if (dt_cmp op_ltA od_lt (dv 1) de_int (nomark _)) de_int (de_callB call_len cd_len (by rfl) T.b_len bt_len (da_cons (dv 3) da_nil))) da_nil)))))))
      (dss_cons (ds_if (dt_cmp (op_eqA hu) od_eq (dv 1) de_int (nomark _)) (dss_cons (ds_set (i := 5) sc_law_word.nd rfl (by first | exact Or.inl rfl | exact Or.inr rfl) (de_callB1 o_law_roll (hr.mono (by decide)) hq (by rfl) (pv 0) (da_cons (de_op op_addAny od_addAny (de_callB call_len cd_len (by rfl) T.b_len bt_len (da_cons (dv 2) da_nil)) de_int) da_nil)))
      (dss_one (ds_set (i := 2) sc_law_word.nd rfl (by first | exact Or.inl rfl | exact Or.inr rfl) (de_op op_addAny od_addAny (de_op op_addAny od_addAny (de_sl (dv 2) do_none (do_some (dv 5))) (de_ix ix_seq od_ix (dv 3) (de_callB1 o_law_roll (hr.mono (by decide)) hq (by rfl) (pv 0) (da_cons (de_callB call_len cd_len (by rfl) T.b_len bt_len (da_cons (dv 3) da_nil)) da_nil)))) (de_sl (dv 2) (do_some (de_op op_addAny od_addAny (dv 5) de_int)) do_none))))) dss_nil)
      (dss_cons (ds_if (dt_cmp (op_eqA hu) od_eq (dv 1) de_int (nomark _)) (dss_cons (ds_set (i := 2) sc_law_word.nd rfl (by first | exact Or.inl rfl | exact Or.inr rfl) (de_callB1 o_law_one_of (hr.mono (by decide)) hq (by rfl) (pv 0) (da_cons (de_lst (da_cons de_str (da_cons de_str (da_cons de_str (da_cons de_str da_nil))))) da_nil)))
      (dss_cons (ds_set (i := 5) sc_law_word.nd rfl (by first | exact Or.inl rfl | exact Or.inr rfl) (de_callB1 o_law_roll (hr.mono (by decide)) hq (by rfl) (pv 0) (da_cons (de_op op_addAny od_addAny (de_callB call_len cd_len (by rfl) T.b_len bt_len (da_cons (dv 2) da_nil)) de_int) da_nil)))
      (dss_one (ds_set (i := 2) sc_law_word.nd rfl (by first | exact Or.inl rfl | exact Or.inr rfl) (de_op op_addAny od_addAny (de_op op_addAny od_addAny (de_sl (dv 2) do_none (do_some (dv 5))) (de_callB1 o_law_one_of (hr.mono (by decide)) hq (by rfl) (pv 0) (da_cons (de_lst (da_cons de_str (da_cons de_str (da_cons de_str (da_cons de_str da_nil))))) da_nil))) (de_sl (dv 2) (do_some (de_op op_addAny od_addAny (dv 5) (de_callB1 o_law_roll (hr.mono (by decide)) hq (by rfl) (pv 0) (da_cons de_int da_nil)))) do_none)))))) dss_nil)
      (dss_one (ds_ret (dv 2)))))))
abbrev s_law_right : Stmt := topS 15
theorem sc_law_right : FnScope N_law_right ["_law_dice_here"] (defScope s_law_right) := ⟨rfl, rfl, rfl, by decide +kernel, rfl, by decide +kernel, by decide +kernel⟩
theorem ok_law_right {f : Addr} {fd : FuncData} (T : Tx K mg) (F : Fun K "_law_right" "_law_right" s_law_right f fd) (o_law_one_of : Ok1 P w K mg base 2 "_law_one_of" ["_law_dice_here", "_law_items"] (spB K mg 1 f_law_one_of)) (o_law_odd : Ok1 P w K mg base 3 "_law_odd" ["_law_dice_here"] (spB K mg 0 f_law_odd)) (o_law_word : Ok1 P w K mg base 3 "_law_word" ["_law_dice_here"] (spB K mg 0 f_law_word)) (o_is_answer : Ok1 P w K mg base 2 "is_answer" ["value"] (spP K mg 1 f_is_answer)) (o_is_name : Ok1 P w K mg base 1 "is_name" ["value"] (spP K mg 1 f_is_name)) (o_law_is_answer : Ok1 P w K mg base 2 "_law_is_answer" ["_law_value"] (spP K mg 1 f_law_is_answer)) (o_law_is_name : Ok1 P w K mg base 1 "_law_is_name" ["_law_value"] (spP K mg 1 f_law_is_name)) : FnG P w K mg base CX0 4 f fd ["_law_dice_here"] (spB K mg 0 f_law_right) := by
  refine fn_lent (m := m_law_right) F sc_law_right rfl fun cd A outer s H E hr hq => ?_
  have hu := hr.units
  exact (dss_cons (ds_for PassesOwn.never rfl (di_any (de_tup (da_cons (de_callB1 o_law_word (hr.mono (by decide)) hq (by rfl) (pv 0) da_nil) (da_cons (de_callB1 o_law_word (hr.mono (by decide)) hq (by rfl) (pv 0) da_nil) (da_cons (de_callB1 o_law_odd (hr.mono (by decide)) hq (by rfl) (pv 0) da_nil) (da_cons (de_callB1 o_law_one_of (hr.mono (by decide)) hq (by rfl) (pv 0) (da_cons (de_callTy call_list_of cd_list (by rfl) T.b_list bt_list (da_cons (T.c_RESERVED.de (by rfl)) da_nil)) da_nil)) da_nil)))))) (dg_name (i := 1) sc_law_right.nd rfl (by first | exact Or.inl rfl | exact Or.inr rfl)) (dss_one (ds_if (dt_cmp (op_neA hu) od_ne (de_callB (cr_repr hq hu) cd_repr (by rfl) T.b_repr bt_repr (da_cons (de_lst (da_cons (de_call1 o_is_name (hr.mono (by decide)) hq (by rfl) (da_cons (dv 1) da_nil)) (da_cons (de_call1 o_is_answer (hr.mono (by decide)) hq (by rfl) (da_cons (dv 1) da_nil)) da_nil))) da_nil)) (de_callB (cr_repr hq hu) cd_repr (by rfl) T.b_repr bt_repr (da_cons (de_lst (da_cons (de_call1 o_law_is_name (hr.mono (by decide)) hq (by rfl) (da_cons (dv 1) da_nil)) (da_cons (de_call1 o_law_is_answer (hr.mono (by decide)) hq (by rfl) (da_cons (dv 1) da_nil)) da_nil))) da_nil)) (nomark _)) (dss_one (ds_ret de_bl)) dss_nil)))
      (dss_one (ds_ret de_bl)))
abbrev s_law : Stmt := topS 16
theorem sc_law : FnScope N_law ["_law_script"] (defScope s_law) := ⟨rfl, rfl, rfl, by decide +kernel, rfl, by decide +kernel, by decide +kernel⟩
theorem ok_law {f : Addr} {fd : FuncData} (T : Tx K mg) (F : Fun K "law" "law" s_law f fd) (o_is_answer : Ok1 P w K mg base 2 "is_answer" ["value"] (spP K mg 1 f_is_answer)) (o_is_name : Ok1 P w K mg base 1 "is_name" ["value"] (spP K mg 1 f_is_name)) (o_law_right : Ok1 P w K mg base 4 "_law_right" ["_law_dice_here"] (spB K mg 0 f_law_right)) (o_law_dice : Ok1 P w K mg base 1 "_law_dice" ["_law_script", "_law_at"] (spF K mg 2 f_law_dice)) : FnG P w K mg base CX0 5 f fd ["_law_script"] (spP K mg 1 f_law) := by
  refine fn_pure (m := m_law) F sc_law rfl fun cd A outer s H E hr hq => ?_
  have hu := hr.units
  exact (dss_cons (ds_for PassesOwn.never rfl (di_range1 (by rfl) T.b_range (da_cons (de_callB (call_max2 rfl) cd_max2 (by rfl) T.b_max bt_max (da_cons de_int (da_cons (de_callB (call_min2 rfl) cd_min2 (by rfl) T.b_min bt_min (da_cons de_int (da_cons (de_callB call_len cd_len (by rfl) T.b_len bt_len (da_cons (dv 0) da_nil)) da_nil))) da_nil))) da_nil)) (dg_name (i := 1) sc_law.nd rfl (by first | exact Or.inl rfl | exact Or.inr rfl)) (dss_cons (ds_setO (i := 4) sc_law.nd rfl (by first | exact Or.inl rfl | exact Or.inr rfl) (df_call1 o_law_dice (hr.mono (by decide)) hq (by rfl) (da_cons (dv 0) (da_cons (dv 1) da_nil))))
      (dss_one (ds_for PassesOwn.never rfl (di_range1 (by rfl) T.b_range (da_cons de_int da_nil)) (dg_name (i := 5) sc_law.nd rfl (by first | exact Or.inl rfl | exact Or.inr rfl)) (dss_one (ds_if (dt_not (dt_val (de_callB1 o_law_right (hr.mono (by decide)) hq (by rfl) (pv 4) da_nil))) (dss_one (ds_ret de_bl)) dss_nil))))))
      (dss_cons (ds_set (i := 2) sc_law.nd rfl (by first | exact Or.inl rfl | exact Or.inr rfl) (de_lst (da_cons de_str (da_cons de_str (da_cons de_str (da_cons de_str (da_cons de_str (da_cons de_str (da_cons de_str (da_cons de_str (da_cons de_str da_nil)))))))))))
      (dss_cons (ds_if (dt_cmp (op_neA hu) od_ne (de_lc rfl sc_law.nd (di_any (dv 2)) (blkOk_by (own := [("_law_one", 6)]) (N := N_law) (sc := defScope s_law) (by decide +kernel)) (fun _ _ _ _ _ => pg_name (i := 6) sc_law.nd rfl (Or.inl rfl)) (fun _ _ _ _ _ => dts_nil) (fun _ _ _ _ _ => (de_call1 o_is_name (hr.mono (by decide)) hq (by rfl) (da_cons (dv 6) da_nil)))) (de_op op_addAny od_addAny (de_op op_addAny od_addAny (de_op op_mulAny od_mulAny (de_lst (da_cons de_bl da_nil)) de_int) (de_op op_mulAny od_mulAny (de_lst (da_cons de_bl da_nil)) de_int)) (de_lst (da_cons de_bl (da_cons de_bl da_nil)))) (nomark _)) (dss_one (ds_ret de_bl)) dss_nil)
      (dss_cons (ds_if (dt_cmp (op_neA hu) od_ne (de_lc rfl sc_law.nd (di_any (de_tup (da_cons de_int (da_cons de_int (da_cons de_int da_nil))))) (blkOk_by (own := [("_law_size", 7)]) (N := N_law) (sc := defScope s_law) (by decide +kernel)) (fun _ _ _ _ _ => pg_name (i := 7) sc_law.nd rfl (Or.inl rfl)) (fun _ _ _ _ _ => dts_nil) (fun _ _ _ _ _ => (de_or (de_call1 o_is_name (hr.mono (by decide)) hq (by rfl) (da_cons (de_op op_mulAny od_mulAny de_str (dv 7)) da_nil)) (de_one (de_call1 o_is_answer (hr.mono (by decide)) hq (by rfl) (da_cons (de_op op_mulAny od_mulAny de_str (dv 7)) da_nil)))))) (de_op op_mulAny od_mulAny (de_lst (da_cons de_bl da_nil)) de_int) (nomark _)) (dss_one (ds_ret de_bl)) dss_nil)
      (dss_cons (ds_setLc (j := 3) rfl sc_law.nd rfl rfl (sw_true rfl rfl rfl (by decide +kernel)) (di_any (de_tup (da_cons de_str (da_cons de_str (da_cons de_str (da_cons de_str (da_cons de_str (da_cons de_str (da_cons de_str da_nil))))))))) (blkOk_by (own := [("_law_one", 6)]) (N := N_law) (sc := defScope s_law) (by decide +kernel)) (fun _ _ _ _ _ => pg_name (i := 6) sc_law.nd rfl (Or.inl rfl)) (fun _ _ _ _ _ => dts_nil) (fun _ _ _ _ _ => (de_call1 o_is_answer (hr.mono (by decide)) hq (by rfl) (da_cons (dv 6) da_nil))))
      (dss_one (ds_ret (de_and (de_cmp (op_eqA hu) od_eq (dv 3) (de_op op_addAny od_addAny (de_op op_mulAny od_mulAny (de_lst (da_cons de_bl da_nil)) de_int) (de_op op_mulAny od_mulAny (de_lst (da_cons de_bl da_nil)) de_int)) (nomark _)) (de_one (de_cmp (op_eqA hu) od_eq (T.c_RESERVED.de (by rfl)) (de_tup (da_cons de_str (da_cons de_str (da_cons de_str (da_cons de_str da_nil))))) (nomark _)))))))))))
end
end K01
namespace K01
open PySem PySem.Spec PyProof.Rows L2 SK
theorem all_mk {l : PySem.W.OpenLaw} {w : World} {K : PySem.W.Frag} {h : Heap} {mg : Str → Option Value} {fa p_is_name p_is_answer p_law_dice p_law_roll p_law_one_of p_law_odd p_law_is_name p_law_is_answer p_law_signs p_law_word p_law_right p_law : Addr} {oc_is_name kV_is_name dc_is_name pm_is_name cd_is_name ct_is_name oc_is_answer kV_is_answer dc_is_answer pm_is_answer cd_is_answer ct_is_answer oc_law_dice kV_law_dice dc_law_dice pm_law_dice cd_law_dice ct_law_dice oc_law_roll kV_law_roll dc_law_roll pm_law_roll cd_law_roll ct_law_roll oc_law_one_of kV_law_one_of dc_law_one_of pm_law_one_of cd_law_one_of ct_law_one_of oc_law_odd kV_law_odd dc_law_odd pm_law_odd cd_law_odd ct_law_odd oc_law_is_name kV_law_is_name dc_law_is_name pm_law_is_name cd_law_is_name ct_law_is_name oc_law_is_answer kV_law_is_answer dc_law_is_answer pm_law_is_answer cd_law_is_answer ct_law_is_answer oc_law_signs kV_law_signs dc_law_signs pm_law_signs cd_law_signs ct_law_signs oc_law_word kV_law_word dc_law_word pm_law_word cd_law_word ct_law_word oc_law_right kV_law_right dc_law_right pm_law_right cd_law_right ct_law_right oc_law kV_law dc_law pm_law cd_law ct_law : Value} {od_is_name an_is_name od_is_answer an_is_answer od_law_dice an_law_dice od_law_roll an_law_roll od_law_one_of an_law_one_of od_law_odd an_law_odd od_law_is_name an_law_is_name od_law_is_answer an_law_is_answer od_law_signs an_law_signs od_law_word an_law_word od_law_right an_law_right od_law an_law : Option Addr} {sl_is_name sl_is_answer sl_law_dice sl_law_roll sl_law_one_of sl_law_odd sl_law_is_name sl_law_is_answer sl_law_signs sl_law_word sl_law_right sl_law : Array (Option Value)} {t_RESERVED_0 t_RESERVED_1 t_RESERVED_2 t_RESERVED_3 : Tok} {pc_RESERVED : Addr} {dd_RESERVED : Option Addr} {nn_RESERVED : Nat} {ss_RESERVED : Array (Option Value)} {t_LETTERS : Tok} {t_MAX_LETTERS : Tok} (X : K.In h) (G : h.Ns mainGlobals mg) (hfa : mg "law" = some (.ref fa))
    (z_abs : PySem.W.nsIn K mainGlobals "abs" = some none)
    (z_all : PySem.W.nsIn K mainGlobals "all" = some none)
    (z_int : PySem.W.nsIn K mainGlobals "int" = some none)
    (z_isinstance : PySem.W.nsIn K mainGlobals "isinstance" = some none)
    (z_len : PySem.W.nsIn K mainGlobals "len" = some none)
    (z_list : PySem.W.nsIn K mainGlobals "list" = some none)
    (z_max : PySem.W.nsIn K mainGlobals "max" = some none)
    (z_min : PySem.W.nsIn K mainGlobals "min" = some none)
    (z_range : PySem.W.nsIn K mainGlobals "range" = some none)
    (z_repr : PySem.W.nsIn K mainGlobals "repr" = some none)
    (z_str : PySem.W.nsIn K mainGlobals "str" = some none)
    (g_RESERVED : PySem.W.nsIn K mainGlobals "RESERVED" = some (some (.ref pc_RESERVED)))
    (h_RESERVED : K.lookup pc_RESERVED = some ⟨.type "tuple", dd_RESERVED, .seq #[.str "failed" t_RESERVED_0, .str "kept" t_RESERVED_1, .str "skipped" t_RESERVED_2, .str "undone" t_RESERVED_3] nn_RESERVED, ss_RESERVED⟩)
    (g_LETTERS : PySem.W.nsIn K mainGlobals "LETTERS" = some (some (.str "abcdefghijklmnopqrstuvwxyz" t_LETTERS)))
    (g_MAX_LETTERS : PySem.W.nsIn K mainGlobals "MAX_LETTERS" = some (some (.int 8 t_MAX_LETTERS)))
    (a_is_name : PySem.W.nsIn K mainGlobals "is_name" = some (some (.ref p_is_name)))
    (l_is_name : K.lookup p_is_name = some ⟨oc_is_name, od_is_name, .func (PySem.W.fnOf "is_name" "is_name" (defArgs s_is_name) (defBody s_is_name) (defScope s_is_name) .none kV_is_name dc_is_name pm_is_name an_is_name cd_is_name ct_is_name), sl_is_name⟩)
    (c_is_name : PySem.W.codeIn K cd_is_name "is_name" = true) (k_is_name : PySem.W.keepIn K (.ref p_is_name) = true)
    (a_is_answer : PySem.W.nsIn K mainGlobals "is_answer" = some (some (.ref p_is_answer)))
    (l_is_answer : K.lookup p_is_answer = some ⟨oc_is_answer, od_is_answer, .func (PySem.W.fnOf "is_answer" "is_answer" (defArgs s_is_answer) (defBody s_is_answer) (defScope s_is_answer) .none kV_is_answer dc_is_answer pm_is_answer an_is_answer cd_is_answer ct_is_answer), sl_is_answer⟩)
    (c_is_answer : PySem.W.codeIn K cd_is_answer "is_answer" = true) (k_is_answer : PySem.W.keepIn K (.ref p_is_answer) = true)
    (a_law_dice : PySem.W.nsIn K mainGlobals "_law_dice" = some (some (.ref p_law_dice)))
    (l_law_dice : K.lookup p_law_dice = some ⟨oc_law_dice, od_law_dice, .func (PySem.W.fnOf "_law_dice" "_law_dice" (defArgs s_law_dice) (defBody s_law_dice) (defScope s_law_dice) .none kV_law_dice dc_law_dice pm_law_dice an_law_dice cd_law_dice ct_law_dice), sl_law_dice⟩)
    (c_law_dice : PySem.W.codeIn K cd_law_dice "_law_dice" = true) (k_law_dice : PySem.W.keepIn K (.ref p_law_dice) = true)
    (a_law_roll : PySem.W.nsIn K mainGlobals "_law_roll" = some (some (.ref p_law_roll)))
    (l_law_roll : K.lookup p_law_roll = some ⟨oc_law_roll, od_law_roll, .func (PySem.W.fnOf "_law_roll" "_law_roll" (defArgs s_law_roll) (defBody s_law_roll) (defScope s_law_roll) .none kV_law_roll dc_law_roll pm_law_roll an_law_roll cd_law_roll ct_law_roll), sl_law_roll⟩)
    (c_law_roll : PySem.W.codeIn K cd_law_roll "_law_roll" = true) (k_law_roll : PySem.W.keepIn K (.ref p_law_roll) = true)
    (a_law_one_of : PySem.W.nsIn K mainGlobals "_law_one_of" = some (some (.ref p_law_one_of)))
    (l_law_one_of : K.lookup p_law_one_of = some ⟨oc_law_one_of, od_law_one_of, .func (PySem.W.fnOf "_law_one_of" "_law_one_of" (defArgs s_law_one_of) (defBody s_law_one_of) (defScope s_law_one_of) .none kV_law_one_of dc_law_one_of pm_law_one_of an_law_one_of cd_law_one_of ct_law_one_of), sl_law_one_of⟩)
    (c_law_one_of : PySem.W.codeIn K cd_law_one_of "_law_one_of" = true) (k_law_one_of : PySem.W.keepIn K (.ref p_law_one_of) = true)
    (a_law_odd : PySem.W.nsIn K mainGlobals "_law_odd" = some (some (.ref p_law_odd)))
    (l_law_odd : K.lookup p_law_odd = some ⟨oc_law_odd, od_law_odd, .func (PySem.W.fnOf "_law_odd" "_law_odd" (defArgs s_law_odd) (defBody s_law_odd) (defScope s_law_odd) .none kV_law_odd dc_law_odd pm_law_odd an_law_odd cd_law_odd ct_law_odd), sl_law_odd⟩)
    (c_law_odd : PySem.W.codeIn K cd_law_odd "_law_odd" = true) (k_law_odd : PySem.W.keepIn K (.ref p_law_odd) = true)
    (a_law_is_name : PySem.W.nsIn K mainGlobals "_law_is_name" = some (some (.ref p_law_is_name)))
    (l_law_is_name : K.lookup p_law_is_name = some ⟨oc_law_is_name, od_law_is_name, .func (PySem.W.fnOf "_law_is_name" "_law_is_name" (defArgs s_law_is_name) (defBody s_law_is_name) (defScope s_law_is_name) .none kV_law_is_name dc_law_is_name pm_law_is_name an_law_is_name cd_law_is_name ct_law_is_name), sl_law_is_name⟩)
    (c_law_is_name : PySem.W.codeIn K cd_law_is_name "_law_is_name" = true) (k_law_is_name : PySem.W.keepIn K (.ref p_law_is_name) = true)
    (a_law_is_answer : PySem.W.nsIn K mainGlobals "_law_is_answer" = some (some (.ref p_law_is_answer)))
    (l_law_is_answer : K.lookup p_law_is_answer = some ⟨oc_law_is_answer, od_law_is_answer, .func (PySem.W.fnOf "_law_is_answer" "_law_is_answer" (defArgs s_law_is_answer) (defBody s_law_is_answer) (defScope s_law_is_answer) .none kV_law_is_answer dc_law_is_answer pm_law_is_answer an_law_is_answer cd_law_is_answer ct_law_is_answer), sl_law_is_answer⟩)
    (c_law_is_answer : PySem.W.codeIn K cd_law_is_answer "_law_is_answer" = true) (k_law_is_answer : PySem.W.keepIn K (.ref p_law_is_answer) = true)
    (a_law_signs : PySem.W.nsIn K mainGlobals "_law_signs" = some (some (.ref p_law_signs)))
    (l_law_signs : K.lookup p_law_signs = some ⟨oc_law_signs, od_law_signs, .func (PySem.W.fnOf "_law_signs" "_law_signs" (defArgs s_law_signs) (defBody s_law_signs) (defScope s_law_signs) .none kV_law_signs dc_law_signs pm_law_signs an_law_signs cd_law_signs ct_law_signs), sl_law_signs⟩)
    (c_law_signs : PySem.W.codeIn K cd_law_signs "_law_signs" = true) (k_law_signs : PySem.W.keepIn K (.ref p_law_signs) = true)
    (a_law_word : PySem.W.nsIn K mainGlobals "_law_word" = some (some (.ref p_law_word)))
    (l_law_word : K.lookup p_law_word = some ⟨oc_law_word, od_law_word, .func (PySem.W.fnOf "_law_word" "_law_word" (defArgs s_law_word) (defBody s_law_word) (defScope s_law_word) .none kV_law_word dc_law_word pm_law_word an_law_word cd_law_word ct_law_word), sl_law_word⟩)
    (c_law_word : PySem.W.codeIn K cd_law_word "_law_word" = true) (k_law_word : PySem.W.keepIn K (.ref p_law_word) = true)
    (a_law_right : PySem.W.nsIn K mainGlobals "_law_right" = some (some (.ref p_law_right)))
    (l_law_right : K.lookup p_law_right = some ⟨oc_law_right, od_law_right, .func (PySem.W.fnOf "_law_right" "_law_right" (defArgs s_law_right) (defBody s_law_right) (defScope s_law_right) .none kV_law_right dc_law_right pm_law_right an_law_right cd_law_right ct_law_right), sl_law_right⟩)
    (c_law_right : PySem.W.codeIn K cd_law_right "_law_right" = true) (k_law_right : PySem.W.keepIn K (.ref p_law_right) = true)
    (a_law : PySem.W.nsIn K mainGlobals "law" = some (some (.ref p_law)))
    (l_law : K.lookup p_law = some ⟨oc_law, od_law, .func (PySem.W.fnOf "law" "law" (defArgs s_law) (defBody s_law) (defScope s_law) .none kV_law dc_law pm_law an_law cd_law ct_law), sl_law⟩)
    (c_law : PySem.W.codeIn K cd_law "law" = true) (k_law : PySem.W.keepIn K (.ref p_law) = true) :
    ∃ fd : FuncData, (∀ (s : Shared) (v : Value), BindsTo s fd ⟨[v], []⟩ [("_law_script", v)]) ∧ ∀ base : Heap, K.In base → base.Ns mainGlobals mg → FnG l.prog w K mg base CX0 5 fa fd ["_law_script"] (spP K mg 1 f_law) := by
  have e := hfa.symm.trans (PySem.W.mg_of X G a_law)
  cases e
  have T : Tx K mg := ⟨PySem.W.mg_none_of X G z_abs, PySem.W.mg_none_of X G z_all, PySem.W.mg_none_of X G z_int, PySem.W.mg_none_of X G z_isinstance, PySem.W.mg_none_of X G z_len, PySem.W.mg_none_of X G z_list, PySem.W.mg_none_of X G z_max, PySem.W.mg_none_of X G z_min, PySem.W.mg_none_of X G z_range, PySem.W.mg_none_of X G z_repr, PySem.W.mg_none_of X G z_str, Const1.strs (ss := ["failed", "kept", "skipped", "undone"]) (PySem.W.mg_of X G g_RESERVED) h_RESERVED (by show 4 ≤ sizeLine; decide) (.cons ⟨_, rfl⟩ (.cons ⟨_, rfl⟩ (.cons ⟨_, rfl⟩ (.cons ⟨_, rfl⟩ (.nil))))), Const1.str (PySem.W.mg_of X G g_LETTERS), Const1.int (PySem.W.mg_of X G g_MAX_LETTERS)⟩
  have F_is_name := fun_mk (st := s_is_name) l_is_name c_is_name k_is_name
  have b_is_name := F_is_name.binds (ps := ["value"]) fun _ _ _ _ _ _ us hl => match us, hl with | [_], _ => rfl
  have F_is_answer := fun_mk (st := s_is_answer) l_is_answer c_is_answer k_is_answer
  have b_is_answer := F_is_answer.binds (ps := ["value"]) fun _ _ _ _ _ _ us hl => match us, hl with | [_], _ => rfl
  have F_law_dice := fun_mk (st := s_law_dice) l_law_dice c_law_dice k_law_dice
  have b_law_dice := F_law_dice.binds (ps := ["_law_script", "_law_at"]) fun _ _ _ _ _ _ us hl => match us, hl with | [_, _], _ => rfl
  have F_law_roll := fun_mk (st := s_law_roll) l_law_roll c_law_roll k_law_roll
  have b_law_roll := F_law_roll.binds (ps := ["_law_dice_here", "_law_total"]) fun _ _ _ _ _ _ us hl => match us, hl with | [_, _], _ => rfl
  have F_law_one_of := fun_mk (st := s_law_one_of) l_law_one_of c_law_one_of k_law_one_of
  have b_law_one_of := F_law_one_of.binds (ps := ["_law_dice_here", "_law_items"]) fun _ _ _ _ _ _ us hl => match us, hl with | [_, _], _ => rfl
  have F_law_odd := fun_mk (st := s_law_odd) l_law_odd c_law_odd k_law_odd
  have b_law_odd := F_law_odd.binds (ps := ["_law_dice_here"]) fun _ _ _ _ _ _ us hl => match us, hl with | [_], _ => rfl
  have F_law_is_name := fun_mk (st := s_law_is_name) l_law_is_name c_law_is_name k_law_is_name
  have b_law_is_name := F_law_is_name.binds (ps := ["_law_value"]) fun _ _ _ _ _ _ us hl => match us, hl with | [_], _ => rfl
  have F_law_is_answer := fun_mk (st := s_law_is_answer) l_law_is_answer c_law_is_answer k_law_is_answer
  have b_law_is_answer := F_law_is_answer.binds (ps := ["_law_value"]) fun _ _ _ _ _ _ us hl => match us, hl with | [_], _ => rfl
  have F_law_signs := fun_mk (st := s_law_signs) l_law_signs c_law_signs k_law_signs
  have b_law_signs := F_law_signs.binds (ps := []) fun _ _ _ _ _ _ us hl => match us, hl with | [], _ => rfl
  have F_law_word := fun_mk (st := s_law_word) l_law_word c_law_word k_law_word
  have b_law_word := F_law_word.binds (ps := ["_law_dice_here"]) fun _ _ _ _ _ _ us hl => match us, hl with | [_], _ => rfl
  have F_law_right := fun_mk (st := s_law_right) l_law_right c_law_right k_law_right
  have b_law_right := F_law_right.binds (ps := ["_law_dice_here"]) fun _ _ _ _ _ _ us hl => match us, hl with | [_], _ => rfl
  have F_law := fun_mk (st := s_law) l_law c_law k_law
  refine ⟨PySem.W.fnOf "law" "law" (defArgs s_law) (defBody s_law) (defScope s_law) .none kV_law dc_law pm_law an_law cd_law ct_law, fun s v => .of_eq rfl, fun base _ _ => ?_⟩
  have o_is_name : Ok1 l.prog w K mg base 1 "is_name" ["value"] (spP K mg 1 f_is_name) := ⟨p_is_name, _, ok_is_name T F_is_name , PySem.W.mg_of X G a_is_name, k_is_name, b_is_name⟩
  have o_is_answer : Ok1 l.prog w K mg base 2 "is_answer" ["value"] (spP K mg 1 f_is_answer) := ⟨p_is_answer, _, ok_is_answer T F_is_answer o_is_name, PySem.W.mg_of X G a_is_answer, k_is_answer, b_is_answer⟩
  have o_law_dice : Ok1 l.prog w K mg base 1 "_law_dice" ["_law_script", "_law_at"] (spF K mg 2 f_law_dice) := ⟨p_law_dice, _, ok_law_dice T F_law_dice , PySem.W.mg_of X G a_law_dice, k_law_dice, b_law_dice⟩
  have o_law_roll : Ok1 l.prog w K mg base 1 "_law_roll" ["_law_dice_here", "_law_total"] (spB K mg 1 f_law_roll) := ⟨p_law_roll, _, ok_law_roll T F_law_roll , PySem.W.mg_of X G a_law_roll, k_law_roll, b_law_roll⟩
  have o_law_one_of : Ok1 l.prog w K mg base 2 "_law_one_of" ["_law_dice_here", "_law_items"] (spB K mg 1 f_law_one_of) := ⟨p_law_one_of, _, ok_law_one_of T F_law_one_of o_law_roll, PySem.W.mg_of X G a_law_one_of, k_law_one_of, b_law_one_of⟩
  have o_law_odd : Ok1 l.prog w K mg base 3 "_law_odd" ["_law_dice_here"] (spB K mg 0 f_law_odd) := ⟨p_law_odd, _, ok_law_odd T F_law_odd o_law_one_of, PySem.W.mg_of X G a_law_odd, k_law_odd, b_law_odd⟩
  have o_law_is_name : Ok1 l.prog w K mg base 1 "_law_is_name" ["_law_value"] (spP K mg 1 f_law_is_name) := ⟨p_law_is_name, _, ok_law_is_name T F_law_is_name , PySem.W.mg_of X G a_law_is_name, k_law_is_name, b_law_is_name⟩
  have o_law_is_answer : Ok1 l.prog w K mg base 2 "_law_is_answer" ["_law_value"] (spP K mg 1 f_law_is_answer) := ⟨p_law_is_answer, _, ok_law_is_answer T F_law_is_answer o_law_is_name, PySem.W.mg_of X G a_law_is_answer, k_law_is_answer, b_law_is_answer⟩
  have o_law_signs : Ok1 l.prog w K mg base 1 "_law_signs" [] (spP K mg 0 f_law_signs) := ⟨p_law_signs, _, ok_law_signs T F_law_signs , PySem.W.mg_of X G a_law_signs, k_law_signs, b_law_signs⟩
  have o_law_word : Ok1 l.prog w K mg base 3 "_law_word" ["_law_dice_here"] (spB K mg 0 f_law_word) := ⟨p_law_word, _, ok_law_word T F_law_word o_law_one_of o_law_roll o_law_signs, PySem.W.mg_of X G a_law_word, k_law_word, b_law_word⟩
  have o_law_right : Ok1 l.prog w K mg base 4 "_law_right" ["_law_dice_here"] (spB K mg 0 f_law_right) := ⟨p_law_right, _, ok_law_right T F_law_right o_law_one_of o_law_odd o_law_word o_is_answer o_is_name o_law_is_answer o_law_is_name, PySem.W.mg_of X G a_law_right, k_law_right, b_law_right⟩
  exact ok_law T F_law o_is_answer o_is_name o_law_right o_law_dice
theorem walk {l : PySem.W.OpenLaw} {q : Program} {loose : List Str} {XP : (Str → Option Value) → Heap → Prop} {YP : World → Heap → Prop} {d : DefRec} {K : Params → PySem.W.Frag} (hn : l.most = some 63) (hdf : d.params.defaults = [])
    (hY : ∀ (w : World) (h : Heap), YP w h → (K w.params).In h)
    (F : ∀ (w : World) (mg : Str → Option Value) (fa : Addr) (h : Heap), (K w.params).In h → h.Ns mainGlobals mg → mg d.name = some (.ref fa) →
      ∃ fd : FuncData, (∀ (s : Shared) (u : Value), BindsTo s fd ⟨[u], []⟩ [("_law_script", u)]) ∧ ∀ base : Heap, (K w.params).In base → base.Ns mainGlobals mg → FnG l.prog w (K w.params) mg base CX0 5 fa fd ["_law_script"] (spP (K w.params) mg 1 f_law)) :
    PySem.W.WalkO q loose XP YP l.row.toRowW d [] (fun f vs => PySem.call f vs) :=
  walk_end (n := 63) (k := 5) (x := "_law_script") (fn := f_law) hn (by decide) hdf ⟨rfl, by decide, by decide⟩ hY F law_true
end K01
open PySem PySem.W PyProof.Rows
set_option maxRecDepth 100000 in
set_option maxHeartbeats 0 in
theorem PySem.Challenge.cw_skipahead_k01_names_holds : PySem.Challenge.rw_skipahead_k01_names.Holds := by
  w_on; o_law; k_head; (case hw => w_witness2)
  k_fill
  refine K01.walk (l := PySem.Challenge.rw_skipahead_k01_names) rfl rfl (fun w h Y => PySem.W.kIn_of Y) ?F
  case F =>
    intro w mg fa h KX G hmg
    refine' K01.all_mk KX G hmg ?z_abs ?z_all ?z_int ?z_isinstance ?z_len ?z_list ?z_max ?z_min ?z_range ?z_repr ?z_str ?g_RESERVED ?h_RESERVED ?g_LETTERS ?g_MAX_LETTERS ?a_is_name ?l_is_name ?c_is_name ?k_is_name ?a_is_answer ?l_is_answer ?c_is_answer ?k_is_answer ?a_law_dice ?l_law_dice ?c_law_dice ?k_law_dice ?a_law_roll ?l_law_roll ?c_law_roll ?k_law_roll ?a_law_one_of ?l_law_one_of ?c_law_one_of ?k_law_one_of ?a_law_odd ?l_law_odd ?c_law_odd ?k_law_odd ?a_law_is_name ?l_law_is_name ?c_law_is_name ?k_law_is_name ?a_law_is_answer ?l_law_is_answer ?c_law_is_answer ?k_law_is_answer ?a_law_signs ?l_law_signs ?c_law_signs ?k_law_signs ?a_law_word ?l_law_word ?c_law_word ?k_law_word ?a_law_right ?l_law_right ?c_law_right ?k_law_right ?a_law ?l_law ?c_law ?k_law
    (case z_abs => k_is)
    (case z_all => k_is)
    (case z_int => k_is)
    (case z_isinstance => k_is)
    (case z_len => k_is)
    (case z_list => k_is)
    (case z_max => k_is)
    (case z_min => k_is)
    (case z_range => k_is)
    (case z_repr => k_is)
    (case z_str => k_is)
    (case g_RESERVED => k_is)
    (case h_RESERVED => k_is)
    (case g_LETTERS => k_is)
    (case g_MAX_LETTERS => k_is)
    (case a_is_name => k_is)
    (case l_is_name => k_is)
    (case c_is_name => k_is)
    (case k_is_name => k_is)
    (case a_is_answer => k_is)
    (case l_is_answer => k_is)
    (case c_is_answer => k_is)
    (case k_is_answer => k_is)
    (case a_law_dice => k_is)
    (case l_law_dice => k_is)
    (case c_law_dice => k_is)
    (case k_law_dice => k_is)
    (case a_law_roll => k_is)
    (case l_law_roll => k_is)
    (case c_law_roll => k_is)
    (case k_law_roll => k_is)
    (case a_law_one_of => k_is)
    (case l_law_one_of => k_is)
    (case c_law_one_of => k_is)
    (case k_law_one_of => k_is)
    (case a_law_odd => k_is)
    (case l_law_odd => k_is)
    (case c_law_odd => k_is)
    (case k_law_odd => k_is)
    (case a_law_is_name => k_is)
    (case l_law_is_name => k_is)
    (case c_law_is_name => k_is)
    (case k_law_is_name => k_is)
    (case a_law_is_answer => k_is)
    (case l_law_is_answer => k_is)
    (case c_law_is_answer => k_is)
    (case k_law_is_answer => k_is)
    (case a_law_signs => k_is)
    (case l_law_signs => k_is)
    (case c_law_signs => k_is)
    (case k_law_signs => k_is)
    (case a_law_word => k_is)
    (case l_law_word => k_is)
    (case c_law_word => k_is)
    (case k_law_word => k_is)
    (case a_law_right => k_is)
    (case l_law_right => k_is)
    (case c_law_right => k_is)
    (case k_law_right => k_is)
    (case a_law => k_is)
    (case l_law => k_is)
    (case c_law => k_is)
    (case k_law => k_is)
