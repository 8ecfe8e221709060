import PyProof.Rows.All
import HandS.ForMost
import HandS.Exc
import HandS.ExcOwn
import HandS.TryOnly
import HandS.WordsExc
import HandS.Walk
import HandS.IsInst
import HandS.Deep
import HandS.Zip
import HandS.CallSlots
import HandS.Lambda
import HandS.HeadHook4
import HandS.WordsDict
import HandS.Conv
import HandS.Text
import HandS.SortInts
import HandS.TupAny
import HandS.TupMul
import HandS.Style
import HandS.SetFor
import HandS.Strs
import KE.GoesMore
import KE.GoesEnum
import HandS.DictTup
import PyProof.DictMoreH
import KE.KDictDisplayH
import HandS.Defaults
import HandS.HeadHook1
import HandS.HeadHook2
import HandS.HotCalls
import HandS.ExcIs
import PyProof.Rows.CountFlat
import HandS.NestedK
import HandS.HeadWalk
import KE.KStateDown
import Lean
import HandS.Head0
import HandS.Head1
import HandS.Head2
import HandS.HeadEnd
import PySem.Challenge.RW_buttonplans_k77_chances_refused
set_option Elab.async false
set_option maxRecDepth 100000
set_option linter.all false
set_option autoImplicit false
set_option maxHeartbeats 4000000
namespace Bp
open PySem L2
/-! ### data -/
inductive D where
  | non | bl (b : Bool) | int (i : Int) | str (s : Str)
  | tup (xs : List D) | lst (xs : List D)
  | dK (ks : List Key) (vs : List D) | dT (ks : List (List Key)) (vs : List D)
  | scr (ns : List Int)
  | loc (n : Nat)
instance : Inhabited D := ⟨.non⟩
inductive Cell where
  | lst (xs : List D) | dK (ks : List Key) (vs : List D) | dT (ks : List (List Key)) (vs : List D)
  | frz (d : D)
  | tab
abbrev Sto := List Cell
def Cell.mut : Cell → Bool
  | .frz _ => false
  | _ => true
def Cell.isTab : Cell → Bool
  | .tab => true
  | _ => false
def sOk (x : Str) : Bool := x.cps.all (· < 0x110000)
def kOk : Key → Bool
  | .inl _ => true
  | .inr x => sOk x
/-! ### how data lies in the heap -/
mutual
inductive Rp (K : PySem.W.Frag) (I : Hp) (M : List Addr) : V → D → Prop
  | non : Rp K I M .non .non
  | bl (b : Bool) : Rp K I M (.bl b) (.bl b)
  | int (i : Int) : Rp K I M (.int i) (.int i)
  | str {x : Str} : sOk x = true → Rp K I M (.str x) (.str x)
  | tup {a : Addr} {xs : List V} {ds : List D} : I a = some (.tup xs) → RpA K I M xs ds → Rp K I M (.ref a) (.tup ds)
  | lst {a : Addr} {xs : List V} {ds : List D} : I a = some (.lst xs) → RpA K I M xs ds → Rp K I M (.ref a) (.lst ds)
  | dK {a : Addr} {kvs : List (Key × V)} {ks : List Key} {ds : List D} : I a = some (.dK kvs) → kvs.map (·.1) = ks ∧ ks.all kOk = true → RpA K I M (kvs.map (·.2)) ds → Rp K I M (.ref a) (.dK ks ds)
  | dT {a : Addr} {kvs : List (List Key × V)} {ks : List (List Key)} {ds : List D} : I a = some (.dT kvs) → kvs.map (·.1) = ks ∧ (ks.all fun k => k.all kOk) = true → RpA K I M (kvs.map (·.2)) ds → Rp K I M (.ref a) (.dT ks ds)
  | scr {a : Addr} {ns : List Int} : SqL K I a (ns.map V.int) → Rp K I M (.ref a) (.scr ns)
  | loc {a : Addr} {n : Nat} : M[n]? = some a → Rp K I M (.ref a) (.loc n)
inductive RpA (K : PySem.W.Frag) (I : Hp) (M : List Addr) : List V → List D → Prop
  | nil : RpA K I M [] []
  | cons {v : V} {vs : List V} {d : D} {ds : List D} : Rp K I M v d → RpA K I M vs ds → RpA K I M (v :: vs) (d :: ds)
end
/-- more of the same -/
structure Le (I : Hp) (M : List Addr) (I' : Hp) (M' : List Addr) : Prop where
  i : Same I I'
  m : ∀ (n : Nat) a, M[n]? = some a → M'[n]? = some a
theorem Le.refl {I : Hp} {M : List Addr} : Le I M I M := ⟨Same.refl _, fun _ _ h => h⟩
theorem Le.trans {I I1 I2 : Hp} {M M1 M2 : List Addr} (a : Le I M I1 M1) (b : Le I1 M1 I2 M2) : Le I M I2 M2 := ⟨a.i.trans b.i, fun n x h => b.m n x (a.m n x h)⟩
theorem sqL_same {K : PySem.W.Frag} {H H' : Hp} {a : Addr} {xs : List V} (e : Same H H') (h : SqL K H a xs) : SqL K H' a xs := e.seq h
section
variable {K : PySem.W.Frag} {I I' : Hp} {M M' : List Addr}
mutual
theorem Rp.mono (e : Le I M I' M') : ∀ {v : V} {d : D}, Rp K I M v d → Rp K I' M' v d
  | _, _, .non => .non
  | _, _, .bl b => .bl b
  | _, _, .int i => .int i
  | _, _, .str h => .str h
  | _, _, .tup h r => .tup (e.i _ _ h) (RpA.mono e r)
  | _, _, .lst h r => .lst (e.i _ _ h) (RpA.mono e r)
  | _, _, .dK h k r => .dK (e.i _ _ h) k (RpA.mono e r)
  | _, _, .dT h k r => .dT (e.i _ _ h) k (RpA.mono e r)
  | _, _, .scr h => .scr (sqL_same e.i h)
  | _, _, .loc h => .loc (e.m _ _ h)
theorem RpA.mono (e : Le I M I' M') : ∀ {vs : List V} {ds : List D}, RpA K I M vs ds → RpA K I' M' vs ds
  | _, _, .nil => .nil
  | _, _, .cons h t => .cons (Rp.mono e h) (RpA.mono e t)
end
theorem RpA.length : ∀ {vs : List V} {ds : List D}, RpA K I M vs ds → vs.length = ds.length
  | _, _, .nil => rfl
  | _, _, .cons _ t => by simp [RpA.length t]
theorem RpA.get : ∀ {vs : List V} {ds : List D} {i : Nat} {d : D}, RpA K I M vs ds → ds[i]? = some d → ∃ v, vs[i]? = some v ∧ Rp K I M v d
  | _, _, _, _, .nil, h => by simp at h
  | _, _, 0, _, .cons h _, e => by simp at e; subst e; exact ⟨_, rfl, h⟩
  | _, _, i + 1, d, .cons _ t, e => by
    obtain ⟨v, a, b⟩ := RpA.get (i := i) (d := d) t (by simpa using e)
    exact ⟨v, by simpa using a, b⟩
theorem RpA.getV : ∀ {vs : List V} {ds : List D} {i : Nat} {v : V}, RpA K I M vs ds → vs[i]? = some v → ∃ d, ds[i]? = some d ∧ Rp K I M v d
  | _, _, _, _, .nil, h => by simp at h
  | _, _, 0, _, .cons h _, e => by simp at e; subst e; exact ⟨_, rfl, h⟩
  | _, _, i + 1, v, .cons _ t, e => by
    obtain ⟨d, a, b⟩ := RpA.getV (i := i) (v := v) t (by simpa using e)
    exact ⟨d, by simpa using a, b⟩
theorem RpA.append : ∀ {vs us : List V} {ds es : List D}, RpA K I M vs ds → RpA K I M us es → RpA K I M (vs ++ us) (ds ++ es)
  | _, _, _, _, .nil, s => s
  | _, _, _, _, .cons h t, s => .cons h (RpA.append t s)
theorem RpA.take : ∀ {vs : List V} {ds : List D} (n : Nat), RpA K I M vs ds → RpA K I M (vs.take n) (ds.take n)
  | _, _, 0, _ => .nil
  | _, _, _ + 1, .nil => .nil
  | _, _, n + 1, .cons h t => .cons h (RpA.take n t)
theorem RpA.drop : ∀ {vs : List V} {ds : List D} (n : Nat), RpA K I M vs ds → RpA K I M (vs.drop n) (ds.drop n)
  | _, _, 0, h => h
  | _, _, _ + 1, .nil => .nil
  | _, _, n + 1, .cons _ t => RpA.drop n t
theorem RpA.set {v : V} {d : D} (r : Rp K I M v d) : ∀ {vs : List V} {ds : List D} (n : Nat), RpA K I M vs ds → RpA K I M (vs.set n v) (ds.set n d)
  | _, _, _, .nil => .nil
  | _, _, 0, .cons _ t => .cons r t
  | _, _, n + 1, .cons h t => .cons h (RpA.set r n t)
theorem RpA.eraseIdx : ∀ {vs : List V} {ds : List D} (n : Nat), RpA K I M vs ds → RpA K I M (vs.eraseIdx n) (ds.eraseIdx n)
  | _, _, _, .nil => .nil
  | _, _, 0, .cons _ t => t
  | _, _, n + 1, .cons h t => .cons h (RpA.eraseIdx n t)
theorem RpA.reverse {vs : List V} {ds : List D} (h : RpA K I M vs ds) : RpA K I M vs.reverse ds.reverse := by
  suffices hs : ∀ (n : Nat) (vs : List V) (ds : List D), ds.length = n → RpA K I M vs ds → RpA K I M vs.reverse ds.reverse from hs _ vs ds rfl h
  intro n
  induction n with
  | zero =>
    intro vs ds e h
    cases h with
    | nil => exact .nil
    | cons a b => simp at e
  | succ n ih =>
    intro vs ds e h
    cases h with
    | nil => simp at e
    | cons a b =>
      simp only [List.reverse_cons]
      exact (ih _ _ (by simpa using e) b).append (.cons a .nil)
theorem RpA.rep {vs : List V} {ds : List D} (h : RpA K I M vs ds) : ∀ k : Nat, RpA K I M (List.replicate k vs).flatten (List.replicate k ds).flatten
  | 0 => .nil
  | k + 1 => by
    simp only [List.replicate_succ, List.flatten_cons]
    exact h.append (RpA.rep h k)
theorem RpA.ints : ∀ {vs : List V} {ns : List Int}, RpA K I M vs (ns.map D.int) → vs = ns.map V.int
  | _, [], h => by cases h; rfl
  | _, n :: ns, h => by
    cases h with
    | cons a b =>
      cases a
      rw [RpA.ints b]; rfl
theorem RpA.of_ints : ∀ (ns : List Int), RpA K I M (ns.map V.int) (ns.map D.int)
  | [] => .nil
  | n :: ns => .cons (.int n) (RpA.of_ints ns)
theorem RpA.bls : ∀ {vs : List V} {bs : List Bool}, RpA K I M vs (bs.map D.bl) → vs = bs.map V.bl
  | _, [], h => by cases h; rfl
  | _, n :: ns, h => by
    cases h with
    | cons a b =>
      cases a
      rw [RpA.bls b]; rfl
theorem RpA.strs : ∀ {vs : List V} {xs : List Str}, RpA K I M vs (xs.map D.str) → vs = xs.map V.str
  | _, [], h => by cases h; rfl
  | _, n :: ns, h => by
    cases h with
    | cons a b =>
      cases a
      rw [RpA.strs b]; rfl
end
/-! ### the state of a body -/
/-- no table of code objects -/
def nt : HO → Bool
  | .tbl _ => false
  | _ => true
/-- what a changing thing is -/
def isCl : HO → Bool
  | .lst _ => true
  | .dK _ => true
  | .dT _ => true
  | .frz _ _ => true
  | _ => false
/-- a tuple -/
def isTo : HO → Bool
  | .tup _ => true
  | _ => false
/-- the table of the law's code object, the name that its lambdas bear -/
def tabL (K : PySem.W.Frag) : Addr := (He.cT K (("law" : Str), none)).2
def lawQ : Str := "law" ++ ".<locals>."
def lamQ : Str := lawQ ++ "<lambda>"
def isDict : HO → Bool
  | .dK _ => true
  | .dT _ => true
  | _ => false
/-- what stood at the def's entry: the heap, the unchanging part, what may be changed; what is locked, and what this def has locked -/
structure Fm where
  H0 : Hp
  I0 : Hp
  Mu : Addr → Prop
  L : Addr → Prop
  Ln : Addr → Prop
  t : Bool
/-- it stands there, or locked -/
def At (L : Addr → Prop) (H : Hp) (a : Addr) (o : HO) : Prop := (¬ L a ∧ H a = some o) ∨ (L a ∧ ∃ ob, H a = some (.frz ob o))
theorem At.there {L : Addr → Prop} {H : Hp} {a : Addr} {o : HO} (h : At L H a o) : ∃ u, H a = some u := by
  rcases h with ⟨_, h⟩ | ⟨_, ob, h⟩
  · exact ⟨_, h⟩
  · exact ⟨_, h⟩
theorem At.same {L : Addr → Prop} {H H' : Hp} {a : Addr} {o : HO} (h : At L H a o) (e : Same H H') : At L H' a o := by
  rcases h with ⟨n, h⟩ | ⟨n, ob, h⟩
  · exact .inl ⟨n, e _ _ h⟩
  · exact .inr ⟨n, ob, e _ _ h⟩
theorem At.upd {L : Addr → Prop} {H : Hp} {a p : Addr} {o u : HO} (h : At L H a o) (e : a ≠ p) : At L (upd H p u) a o := by
  rcases h with ⟨n, h⟩ | ⟨n, ob, h⟩
  · exact .inl ⟨n, by rw [upd_ne e]; exact h⟩
  · exact .inr ⟨n, ob, by rw [upd_ne e]; exact h⟩
def CellOk (K : PySem.W.Frag) (I : Hp) (M : List Addr) (H : Hp) (a : Addr) : Cell → Prop
  | .lst ds => I a = none ∧ ∃ vs, H a = some (.lst vs) ∧ RpA K I M vs ds
  | .dK ks ds => I a = none ∧ ∃ kvs, H a = some (.dK kvs) ∧ (kvs.map (·.1) = ks ∧ ks.all kOk = true) ∧ RpA K I M (kvs.map (·.2)) ds
  | .dT ks ds => I a = none ∧ ∃ kvs, H a = some (.dT kvs) ∧ (kvs.map (·.1) = ks ∧ (ks.all fun k => k.all kOk) = true) ∧ RpA K I M (kvs.map (·.2)) ds
  | .frz d => Rp K I M (.ref a) d ∧ ∃ o, I a = some o
  | .tab => I a = none ∧ a = tabL K ∧ LamX.TabS H a lamQ
/-- some cell is the table -/
def hasTab (S : Sto) : Prop := ∃ n : Nat, S[n]? = some Cell.tab
structure Rel (K : PySem.W.Frag) (B : Fm) (I : Hp) (M : List Addr) (S : Sto) (H : Hp) : Prop where
  sub : ∀ a o, I a = some o → At B.L H a o
  lk : ∀ a, B.L a → ∃ o, I a = some o ∧ isDict o = true
  len : M.length = S.length
  nd : M.Nodup
  cell : ∀ (n : Nat) a c, M[n]? = some a → S[n]? = some c → CellOk K I M H a c
  keep : ∀ a o, B.H0 a = some o → ¬ B.Mu a → At B.Ln H a o
  lkn : ∀ a, B.Ln a → B.L a
  live : ∀ a, H a = none → B.H0 a = none ∨ B.Mu a
  own : ∀ (n : Nat) a c, M[n]? = some a → S[n]? = some c → c.mut = true → B.Mu a ∨ B.H0 a = none
  ext : ∀ a o, I a = some o → B.I0 a = some o ∨ (nt o = true ∧ (B.H0 a = none ∨ B.Mu a)) ∨ isTo o = true
  base : Same B.I0 I
  tb0 : hasTab S → B.t = true
  tb : B.t = true → (∀ a ps, B.H0 a = some (.tbl ps) → B.Mu a) ∧ ∀ a o, I a = some o → nt o = true
/-- what is no dict stands as it is -/
def Pl (I H : Hp) : Prop := ∀ a o, I a = some o → isDict o = false → H a = some o
theorem Rel.pl {K : PySem.W.Frag} {B : Fm} {I : Hp} {M : List Addr} {S : Sto} {H : Hp} (R : Rel K B I M S H) : Pl I H := fun a o h d => by
  rcases R.sub a o h with ⟨_, q⟩ | ⟨l, ob, q⟩
  · exact q
  · obtain ⟨u, e, z⟩ := R.lk a l
    rw [h] at e; cases e
    rw [d] at z; cases z
theorem Rel.rd {K : PySem.W.Frag} {B : Fm} {I : Hp} {M : List Addr} {S : Sto} {H : Hp} (R : Rel K B I M S H) {a : Addr} {o : HO} (h : I a = some o) : Rd H a o := by
  rcases R.sub a o h with ⟨_, q⟩ | ⟨l, ob, q⟩
  · exact .inl q
  · exact .inr ⟨ob, q⟩
theorem sqL_pl {K : PySem.W.Frag} {H H' : Hp} {a : Addr} {xs : List V} (e : Pl H H') (h : SqL K H a xs) : SqL K H' a xs := by
  rcases h with (h | ⟨o, h⟩) | h
  · exact .inl (.inl (e _ _ h rfl))
  · exact .inl (.inr ⟨o, e _ _ h rfl⟩)
  · exact .inr h
theorem CellOk.there {K : PySem.W.Frag} {I : Hp} {M : List Addr} {H : Hp} {a : Addr} {c : Cell} (e : ∀ a o, I a = some o → ∃ u, H a = some u) (h : CellOk K I M H a c) : ∃ o, H a = some o := by
  cases c with
  | lst ds => obtain ⟨_, _, h, _⟩ := h; exact ⟨_, h⟩
  | dK ks ds => obtain ⟨_, _, h, _⟩ := h; exact ⟨_, h⟩
  | dT ks ds => obtain ⟨_, _, h, _⟩ := h; exact ⟨_, h⟩
  | frz d => obtain ⟨_, o, h⟩ := h; exact e _ _ h
  | tab => obtain ⟨_, _, ps, h, _⟩ := h; exact ⟨_, h⟩
theorem CellOk.free {K : PySem.W.Frag} {I : Hp} {M : List Addr} {H : Hp} {a : Addr} {c : Cell} (m : c.mut = true) (h : CellOk K I M H a c) : I a = none := by
  cases c with
  | lst ds => exact h.1
  | dK ks ds => exact h.1
  | dT ks ds => exact h.1
  | frz d => cases m
  | tab => exact h.1
/-- a cell stays as it is where its place in the heap does -/
theorem CellOk.stay {K : PySem.W.Frag} {I I' : Hp} {M M' : List Addr} {H H' : Hp} {a : Addr} {c : Cell} (h : CellOk K I M H a c) (e : Le I M I' M') (hI : c.mut = true → I' a = none) (hH : c.mut = true → H' a = H a) (hX : ∀ b o, H b = some o → isCl o = false → H' b = some o) : CellOk K I' M' H' a c := by
  cases c with
  | lst ds => obtain ⟨_, vs, h, r⟩ := h; exact ⟨hI rfl, vs, (hH rfl).trans h, r.mono e⟩
  | dK ks ds => obtain ⟨_, vs, h, k, r⟩ := h; exact ⟨hI rfl, vs, (hH rfl).trans h, k, r.mono e⟩
  | dT ks ds => obtain ⟨_, vs, h, k, r⟩ := h; exact ⟨hI rfl, vs, (hH rfl).trans h, k, r.mono e⟩
  | frz d => obtain ⟨r, o, q⟩ := h; exact ⟨r.mono e, o, e.i _ _ q⟩
  | tab =>
    obtain ⟨_, e1, ps, h, t, k⟩ := h
    refine ⟨hI rfl, e1, ps, (hH rfl).trans h, t, fun pos cv z => ?_⟩
    obtain ⟨b, e2, e3⟩ := k pos cv z
    exact ⟨b, e2, hX _ _ e3 rfl⟩
section
variable {K : PySem.W.Frag} {B : Fm} {I : Hp} {M : List Addr} {S : Sto} {H : Hp}
theorem Rel.there (R : Rel K B I M S H) {n : Nat} {a : Addr} (h : M[n]? = some a) : ∃ c o, S[n]? = some c ∧ H a = some o := by
  have hl : n < S.length := by rw [← R.len]; exact (List.getElem?_eq_some_iff.mp h).1
  have hc : S[n]? = some S[n] := by simp [hl]
  obtain ⟨o, q⟩ := (R.cell n a _ h hc).there fun a o h => (R.sub a o h).there
  exact ⟨_, o, hc, q⟩
theorem upd_le {p : Addr} {o : HO} (hp : I p = none) : Le I M (upd I p o) M := ⟨fun b u e => by rw [upd_ne (ne_of_none e hp)]; exact e, fun _ _ h => h⟩
theorem Rel.free (R : Rel K B I M S H) {p : Addr} (hp : H p = none) : I p = none := by
  cases q : I p with
  | none => rfl
  | some o =>
    obtain ⟨u, e⟩ := (R.sub p o q).there
    rw [e] at hp; cases hp
theorem Rel.nolk (R : Rel K B I M S H) {p : Addr} (hp : I p = none) : ¬ B.L p := fun l => by
  obtain ⟨o, e, _⟩ := R.lk p l
  rw [hp] at e; cases e
/-- a new thing that never changes -/
theorem Rel.new (R : Rel K B I M S H) {p : Addr} {o : HO} (hp : H p = none) (hn : nt o = true := by rfl) : Rel K B (upd I p o) M S (upd H p o) ∧ Le I M (upd I p o) M := by
  have hI := R.free hp
  have le : Le I M (upd I p o) M := upd_le hI
  have nm : ∀ (n : Nat) a, M[n]? = some a → a ≠ p := fun n a h => by
    obtain ⟨c, u, _, q⟩ := R.there h
    exact ne_of_none q hp
  refine ⟨⟨fun b u e => ?_, fun a l => ?_, R.len, R.nd, fun n a c h1 h2 => ?_, fun a u h1 h2 => ?_, R.lkn, fun a h => ?_, R.own, fun a u h => ?_, R.base.trans le.i, R.tb0, fun z => ⟨(R.tb z).1, fun a u h => ?_⟩⟩, le⟩
  · by_cases hb : b = p
    · subst hb; rw [upd_same] at e; cases e; exact .inl ⟨R.nolk hI, upd_same⟩
    · rw [upd_ne hb] at e; exact (R.sub b u e).upd hb
  · obtain ⟨u, e, z⟩ := R.lk a l
    exact ⟨u, le.i _ _ e, z⟩
  · exact (R.cell n a c h1 h2).stay le (fun m => by rw [upd_ne (nm n a h1)]; exact (R.cell n a c h1 h2).free m) (fun _ => upd_ne (nm n a h1)) (fun b u h _ => by rw [upd_ne (ne_of_none h hp)]; exact h)
  · have q := R.keep a u h1 h2
    obtain ⟨w, e⟩ := q.there
    exact q.upd (ne_of_none e hp)
  · by_cases hb : a = p
    · subst hb; rw [upd_same] at h; cases h
    · rw [upd_ne hb] at h; exact R.live a h
  · by_cases hb : a = p
    · subst hb; rw [upd_same] at h; cases h; exact .inr (.inl ⟨hn, R.live _ hp⟩)
    · rw [upd_ne hb] at h; exact R.ext a u h
  · by_cases hb : a = p
    · subst hb; rw [upd_same] at h; cases h; exact hn
    · rw [upd_ne hb] at h; exact (R.tb z).2 a u h
/-- a new thing that may change -/
theorem Rel.alloc (R : Rel K B I M S H) {p : Addr} {o : HO} {c : Cell} (hp : H p = none) (hc : ∀ H', H' p = some o → CellOk K I (M ++ [p]) H' p c) (hq : c.isTab = false := by rfl) :
    Rel K B I (M ++ [p]) (S ++ [c]) (upd H p o) ∧ Le I M I (M ++ [p]) := by
  have nm : ∀ (n : Nat) a, M[n]? = some a → a ≠ p := fun n a h => by
    obtain ⟨c, u, _, q⟩ := R.there h
    exact ne_of_none q hp
  have le : Le I M I (M ++ [p]) := ⟨Same.refl _, fun n a h => by rw [List.getElem?_append_left (List.getElem?_eq_some_iff.mp h).1]; exact h⟩
  have spl : ∀ (n : Nat) a c', (M ++ [p])[n]? = some a → (S ++ [c])[n]? = some c' → (M[n]? = some a ∧ S[n]? = some c') ∨ (n = M.length ∧ a = p ∧ c' = c) := by
    intro n a c' h1 h2
    by_cases hn : n < M.length
    · rw [List.getElem?_append_left hn] at h1
      rw [List.getElem?_append_left (by rw [← R.len]; exact hn)] at h2
      exact .inl ⟨h1, h2⟩
    · have hl := (List.getElem?_eq_some_iff.mp h1).1
      simp only [List.length_append, List.length_cons, List.length_nil] at hl
      have e : n = M.length := by omega
      subst e
      rw [List.getElem?_append_right (Nat.le_refl _)] at h1
      rw [R.len, List.getElem?_append_right (Nat.le_refl _)] at h2
      simp at h1 h2
      exact .inr ⟨rfl, h1.symm, h2.symm⟩
  refine ⟨⟨fun b u e => ?_, R.lk, by simp [R.len], ?_, fun n a c' h1 h2 => ?_, fun a u h1 h2 => ?_, R.lkn, fun a h => ?_, fun n a c' h1 h2 m => ?_, R.ext, R.base, fun z => R.tb0 ?_, R.tb⟩, le⟩
  · have q := R.sub b u e
    obtain ⟨w, e⟩ := q.there
    exact q.upd (ne_of_none e hp)
  · rw [List.nodup_append]
    refine ⟨R.nd, by simp, fun a ha b hb => ?_⟩
    simp at hb; subst hb
    obtain ⟨n, hn⟩ := List.mem_iff_getElem?.mp ha
    exact nm n a hn
  · rcases spl n a c' h1 h2 with ⟨h1, h2⟩ | ⟨_, rfl, rfl⟩
    · exact (R.cell n a c' h1 h2).stay le (fun m => (R.cell n a c' h1 h2).free m) (fun _ => upd_ne (nm n a h1)) (fun b u h _ => by rw [upd_ne (ne_of_none h hp)]; exact h)
    · exact hc _ upd_same
  · have q := R.keep a u h1 h2
    obtain ⟨w, e⟩ := q.there
    exact q.upd (ne_of_none e hp)
  · by_cases hb : a = p
    · subst hb; rw [upd_same] at h; cases h
    · rw [upd_ne hb] at h; exact R.live a h
  · rcases spl n a c' h1 h2 with ⟨h1, h2⟩ | ⟨_, rfl, rfl⟩
    · exact R.own n a c' h1 h2 m
    · exact (R.live _ hp).symm
  · obtain ⟨n, hn⟩ := z
    refine ⟨n, ?_⟩
    by_cases hl : n < S.length
    · rw [List.getElem?_append_left hl] at hn; exact hn
    · rw [List.getElem?_append_right (Nat.le_of_not_lt hl)] at hn
      cases e : n - S.length with
      | zero => rw [e] at hn; simp at hn; subst hn; cases hq
      | succ k => rw [e] at hn; simp at hn
theorem Rel.other (R : Rel K B I M S H) {n : Nat} {a : Addr} (h1 : M[n]? = some a) : ∀ (j : Nat) b, M[j]? = some b → j ≠ n → b ≠ a := fun j b hj hne e => by
  subst e
  obtain ⟨p1, q1⟩ := List.getElem?_eq_some_iff.mp hj
  obtain ⟨p2, q2⟩ := List.getElem?_eq_some_iff.mp h1
  exact hne ((List.getElem_inj R.nd).mp (q1.trans q2.symm))
/-- a changing thing is changed -/
theorem Rel.write (R : Rel K B I M S H) {n : Nat} {a : Addr} {c c' : Cell} {o : HO} (h1 : M[n]? = some a) (h2 : S[n]? = some c) (m : c.mut = true) (m' : c'.mut = true) (hc : ∀ H', H' a = some o → CellOk K I M H' a c') (ht : c.isTab = false := by rfl) (ht' : c'.isTab = false := by rfl) :
    Rel K B I M (S.set n c') (upd H a o) := by
  have hn : n < S.length := (List.getElem?_eq_some_iff.mp h2).1
  have hI := (R.cell n a c h1 h2).free m
  have ow := R.own n a c h1 h2 m
  have other := R.other h1
  have cl : ∀ u, H a = some u → isCl u = true := fun u hu => by
    have ck := R.cell n a c h1 h2
    cases c with
    | lst ds => obtain ⟨_, _, q, _⟩ := ck; rw [q] at hu; cases hu; rfl
    | dK ks ds => obtain ⟨_, _, q, _⟩ := ck; rw [q] at hu; cases hu; rfl
    | dT ks ds => obtain ⟨_, _, q, _⟩ := ck; rw [q] at hu; cases hu; rfl
    | frz d => cases m
    | tab => cases ht
  refine ⟨fun b u e => ?_, R.lk, by simp [R.len], R.nd, fun j b d hj hd => ?_, fun b u hb hm => ?_, R.lkn, fun b h => ?_, fun j b d hj hd md => ?_, R.ext, R.base, fun z => R.tb0 ?_, R.tb⟩
  · exact (R.sub b u e).upd (ne_of_none e hI)
  · by_cases e : j = n
    · subst e
      rw [h1] at hj; cases hj
      rw [List.getElem?_set_self hn] at hd; cases hd
      exact hc _ upd_same
    · rw [List.getElem?_set_ne (Ne.symm e)] at hd
      exact (R.cell j b d hj hd).stay Le.refl (fun md => (R.cell j b d hj hd).free md) (fun _ => upd_ne (other j b hj e)) (fun b u h z => by rw [upd_ne (fun e => by rw [e] at h; rw [cl u h] at z; cases z)]; exact h)
  · have q := R.keep b u hb hm
    by_cases e : b = a
    · subst e
      rcases ow with z | z
      · exact (hm z).elim
      · rw [hb] at z; cases z
    · exact q.upd e
  · by_cases e : b = a
    · subst e; rw [upd_same] at h; cases h
    · rw [upd_ne e] at h; exact R.live b h
  · by_cases e : j = n
    · subst e
      rw [h1] at hj; cases hj
      exact ow
    · rw [List.getElem?_set_ne (Ne.symm e)] at hd
      exact R.own j b d hj hd md
  · obtain ⟨j, hj⟩ := z
    refine ⟨j, ?_⟩
    by_cases e : j = n
    · subst e; rw [List.getElem?_set_self hn] at hj; cases hj; cases ht'
    · rw [List.getElem?_set_ne (Ne.symm e)] at hj; exact hj
/-- a changing thing changes no more -/
theorem Rel.freeze (R : Rel K B I M S H) {n : Nat} {a : Addr} {c : Cell} {o : HO} {d : D} (h1 : M[n]? = some a) (h2 : S[n]? = some c) (m : c.mut = true) (ho : H a = some o) (hd : ∀ I', I' a = some o → Le I M I' M → Rp K I' M (.ref a) d) (hnt : nt o = true := by rfl) :
    Rel K B (upd I a o) M (S.set n (.frz d)) H ∧ Le I M (upd I a o) M := by
  have hn : n < S.length := (List.getElem?_eq_some_iff.mp h2).1
  have hI := (R.cell n a c h1 h2).free m
  have le : Le I M (upd I a o) M := upd_le hI
  have other := R.other h1
  refine ⟨⟨fun b u e => ?_, fun a l => ?_, by simp [R.len], R.nd, fun j b d' hj hd' => ?_, R.keep, R.lkn, R.live, fun j b d' hj hd' md => ?_, fun b u h => ?_, R.base.trans le.i, fun z => R.tb0 ?_, fun z => ⟨(R.tb z).1, fun b u h => ?_⟩⟩, le⟩
  · by_cases hb : b = a
    · subst hb; rw [upd_same] at e; cases e; exact .inl ⟨R.nolk hI, ho⟩
    · rw [upd_ne hb] at e; exact R.sub b u e
  · obtain ⟨u, e, z⟩ := R.lk a l
    exact ⟨u, le.i _ _ e, z⟩
  · by_cases e : j = n
    · subst e
      rw [h1] at hj; cases hj
      rw [List.getElem?_set_self hn] at hd'; cases hd'
      exact ⟨hd _ upd_same le, _, upd_same⟩
    · rw [List.getElem?_set_ne (Ne.symm e)] at hd'
      exact (R.cell j b d' hj hd').stay le (fun md => by rw [upd_ne (other j b hj e)]; exact (R.cell j b d' hj hd').free md) (fun _ => rfl) (fun _ _ h _ => h)
  · by_cases e : j = n
    · subst e
      rw [List.getElem?_set_self hn] at hd'; cases hd'
      cases md
    · rw [List.getElem?_set_ne (Ne.symm e)] at hd'
      exact R.own j b d' hj hd' md
  · by_cases hb : b = a
    · subst hb
      rw [upd_same] at h; cases h
      exact .inr (.inl ⟨hnt, (R.own n b c h1 h2 m).symm⟩)
    · rw [upd_ne hb] at h; exact R.ext b u h
  · obtain ⟨j, hj⟩ := z
    refine ⟨j, ?_⟩
    by_cases e : j = n
    · subst e; rw [List.getElem?_set_self hn] at hj; cases hj
    · rw [List.getElem?_set_ne (Ne.symm e)] at hj; exact hj
  · by_cases hb : b = a
    · subst hb; rw [upd_same] at h; cases h; exact hnt
    · rw [upd_ne hb] at h; exact (R.tb z).2 b u h
/-- behind a call that changes nothing -/
theorem Rel.call (R : Rel K B I M S H) {I' H' : Hp} (hs : Same H H') (hi : Same I I') (hx : ∀ a o, I' a = some o → I a = some o ∨ (nt o = true ∧ H a = none) ∨ isTo o = true) (hih : ∀ a o, I' a = some o → At B.L H' a o) : Rel K B I' M S H' ∧ Le I M I' M := by
  have le : Le I M I' M := ⟨hi, fun _ _ h => h⟩
  refine ⟨⟨hih, fun a l => ?_, R.len, R.nd, fun n a c h1 h2 => ?_, fun a u h1 h2 => (R.keep a u h1 h2).same hs, R.lkn, fun a h => R.live a (hs.free h), R.own, fun a u h => ?_, R.base.trans hi, R.tb0, fun z => ⟨(R.tb z).1, fun a u h => ?_⟩⟩, le⟩
  · obtain ⟨u, e, z⟩ := R.lk a l
    exact ⟨u, hi _ _ e, z⟩
  · obtain ⟨c', o, _, q⟩ := R.there h1
    refine (R.cell n a c h1 h2).stay le (fun m => ?_) (fun _ => (hs _ _ q).trans q.symm) (fun b u h _ => hs _ _ h)
    cases e : I' a with
    | none => rfl
    | some u =>
      rcases hx a u e with z | z | z
      · rw [(R.cell n a c h1 h2).free m] at z; cases z
      · rw [q] at z; cases z.2
      · exfalso
        have q' := hs _ _ q
        have no : ∀ xs, o ≠ .tup xs := fun xs eo => by
          have ck := R.cell n a c h1 h2
          cases c with
          | lst ds => obtain ⟨_, _, g, _⟩ := ck; rw [g] at q; cases q; cases eo
          | dK ks ds => obtain ⟨_, _, g, _⟩ := ck; rw [g] at q; cases q; cases eo
          | dT ks ds => obtain ⟨_, _, g, _⟩ := ck; rw [g] at q; cases q; cases eo
          | frz d => cases m
          | tab => obtain ⟨_, _, _, g, _⟩ := ck; rw [g] at q; cases q; cases eo
        cases u <;> first | (cases z; done) | skip
        rename_i xs
        rcases hih a _ e with ⟨_, g⟩ | ⟨l, ob, g⟩
        · rw [q'] at g; cases g; exact no xs rfl
        · obtain ⟨u', e', d'⟩ := R.lk a l
          rw [(R.cell n a c h1 h2).free m] at e'; cases e'
  · rcases hx a u h with z | z | z
    · exact R.ext a u z
    · exact .inr (.inl ⟨z.1, R.live _ z.2⟩)
    · exact .inr (.inr z)
  · rcases hx a u h with q | q | q
    · exact (R.tb z).2 a u q
    · exact q.1
    · cases u <;> first | rfl | cases q
/-- a tuple that stands there never changes -/
theorem Rel.learn (R : Rel K B I M S H) {q : Addr} {us : List V} (hq : H q = some (.tup us)) : ∃ I', Rel K B I' M S H ∧ Le I M I' M ∧ I' q = some (.tup us) := by
  have nL : ¬ B.L q := fun l => by
    obtain ⟨o, e, d⟩ := R.lk q l
    rcases R.sub q o e with ⟨n, _⟩ | ⟨_, ob, g⟩
    · exact n l
    · rw [hq] at g; cases g
  cases hI : I q with
  | some o =>
    refine ⟨I, R, Le.refl, ?_⟩
    rcases R.sub q o hI with ⟨_, g⟩ | ⟨l, _⟩
    · rw [hq] at g; cases g; exact hI
    · exact (nL l).elim
  | none =>
    have le : Le I M (upd I q (.tup us)) M := upd_le hI
    refine ⟨_, ⟨fun b u e => ?_, fun a l => ?_, R.len, R.nd, fun n a c h1 h2 => ?_, R.keep, R.lkn, R.live, R.own, fun a u h => ?_, R.base.trans le.i, R.tb0, fun z => ⟨(R.tb z).1, fun a u h => ?_⟩⟩, le, upd_same⟩
    · by_cases hb : b = q
      · subst hb; rw [upd_same] at e; cases e; exact .inl ⟨nL, hq⟩
      · rw [upd_ne hb] at e; exact R.sub b u e
    · obtain ⟨u, e, z⟩ := R.lk a l
      exact ⟨u, le.i _ _ e, z⟩
    · have ck := R.cell n a c h1 h2
      refine ck.stay le (fun m => ?_) (fun _ => rfl) (fun _ _ h _ => h)
      have ne : a ≠ q := fun e => by
        subst e
        cases c with
        | lst ds => obtain ⟨_, _, g, _⟩ := ck; rw [g] at hq; cases hq
        | dK ks ds => obtain ⟨_, _, g, _⟩ := ck; rw [g] at hq; cases hq
        | dT ks ds => obtain ⟨_, _, g, _⟩ := ck; rw [g] at hq; cases hq
        | frz d => cases m
        | tab => obtain ⟨_, _, _, g, _⟩ := ck; rw [g] at hq; cases hq
      rw [upd_ne ne]
      exact ck.free m
    · by_cases hb : a = q
      · subst hb; rw [upd_same] at h; cases h; exact .inr (.inr rfl)
      · rw [upd_ne hb] at h; exact R.ext a u h
    · by_cases hb : a = q
      · subst hb; rw [upd_same] at h; cases h; rfl
      · rw [upd_ne hb] at h; exact (R.tb z).2 a u h
/-- the lambda is made: all but the table stands as it stood -/
theorem Rel.lam (R : Rel K B I M S H) {H1 : Hp} (hs : hasTab S) (e : LamX.ExtN H H1) (ht : LamX.TabS H1 (tabL K) lamQ) : Rel K B I M S H1 := by
  obtain ⟨mt, it⟩ := R.tb (R.tb0 hs)
  have up : ∀ {L : Addr → Prop} {a : Addr} {o : HO}, nt o = true → At L H a o → At L H1 a o := fun {L a o} n h => by
    rcases h with ⟨l, h⟩ | ⟨l, ob, h⟩
    · exact .inl ⟨l, e _ _ h fun ps z => by rw [z] at n; cases n⟩
    · exact .inr ⟨l, ob, e _ _ h fun ps z => by cases z⟩
  refine ⟨fun a o h => up (it a o h) (R.sub a o h), R.lk, R.len, R.nd, fun n a c h1 h2 => ?_, fun a o h hm => up ?_ (R.keep a o h hm), R.lkn, fun a h => ?_, R.own, R.ext, R.base, R.tb0, R.tb⟩
  · have ck := R.cell n a c h1 h2
    cases c with
    | lst ds => obtain ⟨q, vs, h, r⟩ := ck; exact ⟨q, vs, e _ _ h (fun ps z => by cases z), r⟩
    | dK ks ds => obtain ⟨q, vs, h, r⟩ := ck; exact ⟨q, vs, e _ _ h (fun ps z => by cases z), r⟩
    | dT ks ds => obtain ⟨q, vs, h, r⟩ := ck; exact ⟨q, vs, e _ _ h (fun ps z => by cases z), r⟩
    | frz d => exact ck
    | tab => obtain ⟨q, rfl, _⟩ := ck; exact ⟨q, rfl, ht⟩
  · cases o <;> first | rfl | exact absurd (mt a _ h) hm
  · cases h0 : B.H0 a with
    | none => exact .inl rfl
    | some o =>
      by_cases hm : B.Mu a
      · exact .inr hm
      · have no : nt o = true := by cases o <;> first | rfl | exact absurd (mt a _ h0) hm
        obtain ⟨u, hu⟩ := (up no (R.keep a o h0 hm)).there
        rw [hu] at h; cases h
end
end Bp

namespace Bp
open PySem L2
/-! ### results -/
inductive R (α : Type) where
  | ok (a : α) (S : Sto) | ex (c : Nat) (S : Sto) | no
inductive P where
  | ok (d : D) | ex (c : Nat) | no
abbrev Rho := List (Option D)
inductive SR where
  | nx (r : Rho) (S : Sto) | rt (d : D) (S : Sto) | ct (r : Rho) (S : Sto) | bk (r : Rho) (S : Sto) | ex (c : Nat) (r : Rho) (S : Sto) | no
def R.bind {α β : Type} (x : R α) (f : α → Sto → R β) : R β := match x with
  | .ok a S => f a S
  | .ex c S => .ex c S
  | .no => .no
def R.opt {α : Type} (o : Option α) (S : Sto) : R α := match o with
  | some a => .ok a S
  | none => .no
/-! ### data: what stands at a place, comparisons -/
def res (S : Sto) (d : D) : D := match d with
  | .loc n => (match S[n]? with
    | some (.lst xs) => .lst xs
    | some (.dK ks vs) => .dK ks vs
    | some (.dT ks vs) => .dT ks vs
    | some (.frz e) => e
    | some .tab => .loc n
    | none => .loc n)
  | d => d
/-- no changing thing within, not deep -/
def okN : Nat → D → Bool
  | 0, _ => false
  | n + 1, d => match d with
    | .non => true
    | .bl _ => true
    | .int _ => true
    | .str _ => true
    | .scr _ => true
    | .tup xs => xs.all (okN n)
    | .lst xs => xs.all (okN n)
    | .dK _ vs => vs.all (okN n)
    | .dT _ vs => vs.all (okN n)
    | .loc _ => false
/-- may be compared -/
def cmpN : Nat → D → Bool
  | 0, _ => false
  | n + 1, d => match d with
    | .non => true
    | .bl _ => true
    | .int _ => true
    | .str _ => true
    | .scr _ => true
    | .tup xs => xs.all (cmpN n)
    | .lst xs => xs.all (cmpN n)
    | _ => false
mutual
def D.py : D → PyData
  | .non => .none
  | .bl b => .bool b
  | .int i => .int i
  | .str x => .str x
  | .tup xs => .tuple (D.pys xs)
  | .lst xs => .list (D.pys xs)
  | .scr ns => .list (ns.map .int)
  | _ => .none
def D.pys : List D → List PyData
  | [] => []
  | x :: xs => D.py x :: D.pys xs
end
def eqD (a b : D) : Bool := PyData.eqv a.py b.py
def eqDs (a b : List D) : Bool := PyData.eqvAll (D.pys a) (D.pys b)
abbrev dep : Nat := 60
/-! ### operations -/
inductive Kd where
  | int | bool | str | tuple | list
  deriving DecidableEq
def isKd (k : Kd) (d : D) : Option Bool := match k, d with
  | _, .loc _ => none
  | _, .dT _ _ => none
  | .int, .int _ => some true
  | .int, .bl _ => some true
  | .bool, .bl _ => some true
  | .str, .str _ => some true
  | .tuple, .tup _ => some true
  | .list, .lst _ => some true
  | .list, .scr _ => some true
  | _, _ => some false
def isKds (d : D) : List Kd → Option Bool
  | [] => some false
  | k :: ks => match isKd k d with
    | some true => some true
    | some false => isKds d ks
    | none => none
/-- one operand -/
inductive O1 where
  | len | neg | allB | anyB | isi (k : Kd) | isis (ks : List Kd) | tuple | tupRange | intB | strI | sum | absI | dictP | maxI
  deriving DecidableEq
def dBools : List D → Option (List Bool)
  | [] => some []
  | .bl b :: ds => (dBools ds).map (b :: ·)
  | _ :: _ => none
def dInts : List D → Option (List Int)
  | [] => some []
  | .int b :: ds => (dInts ds).map (b :: ·)
  | _ :: _ => none
def dStrs : List D → Option (List Str)
  | [] => some []
  | .str b :: ds => (dStrs ds).map (b :: ·)
  | _ :: _ => none
def lenD : D → Option Nat
  | .str s => if s.length ≤ sizeLine then some s.length else none
  | .tup xs => some xs.length
  | .lst xs => some xs.length
  | .scr ns => some ns.length
  | .dK ks _ => some ks.length
  | _ => none
def keyOf : D → Option Key
  | .int i => some (.inl i)
  | .str x => some (.inr x)
  | _ => none
def keysOf : List D → Option (List Key)
  | [] => some []
  | d :: ds => (keyOf d).bind fun k => (keysOf ds).map (k :: ·)
/-- a table, one key stored: in its place, or at the end -/
def replD {κ : Type} [DecidableEq κ] (k : κ) (v : D) : List κ → List D → List D
  | k' :: ks, w :: vs => (if k' = k then v else w) :: replD k v ks vs
  | _, _ => []
def putKs {κ : Type} [DecidableEq κ] (k : κ) (ks : List κ) : List κ := if (ks.any fun k' => decide (k' = k)) = true then ks else ks ++ [k]
def putVs {κ : Type} [DecidableEq κ] (k : κ) (v : D) (ks : List κ) (vs : List D) : List D := if (ks.any fun k' => decide (k' = k)) = true then replD k v ks vs else vs ++ [v]
def pairsOf : List D → Option (List (Key × D))
  | [] => some []
  | .tup [k, v] :: ds => (keyOf k).bind fun q => (pairsOf ds).map ((q, v) :: ·)
  | _ => none
def mergeKs : List (Key × D) → List Key → List Key
  | [], ks => ks
  | p :: ps, ks => mergeKs ps (putKs p.1 ks)
def mergeVs : List (Key × D) → List Key → List D → List D
  | [], _, vs => vs
  | p :: ps, ks, vs => mergeVs ps (putKs p.1 ks) (putVs p.1 p.2 ks vs)
def maxOf : Int → List Int → Int
  | m, [] => m
  | m, n :: ns => maxOf (if m < n then n else m) ns
def rangeD (n : Int) : List D := (List.range n.toNat).map fun i => D.int (i : Nat)
def ev1 : O1 → D → Option D
  | .len, d => (lenD d).map fun n => .int n
  | .neg, .int i => some (.int (-i))
  | .allB, .lst xs => (dBools xs).map fun bs => .bl (bs.all id)
  | .anyB, .lst xs => (dBools xs).map fun bs => .bl (bs.any id)
  | .isi k, d => (isKd k d).map .bl
  | .isis _, .loc _ => none
  | .isis _, .dT _ _ => none
  | .isis ks, d => (isKds d ks).map .bl
  | .tuple, .lst xs => some (.tup xs)
  | .tuple, .tup xs => some (.tup xs)
  | .tupRange, .int n => if 0 ≤ n ∧ n ≤ 1000 then some (.tup (rangeD n)) else none
  | .intB, .bl b => some (.int (if b then 1 else 0))
  | .intB, .int i => some (.int i)
  | .strI, .int i => if i.natAbs.log2 < 1920 then some (.str (toString i)) else none
  | .sum, .lst xs => (dInts xs).map fun ns => .int ns.sum
  | .absI, .int i => some (.int (if i < 0 then -i else i))
  | .dictP, .tup xs => (pairsOf xs).map fun ps => .dK (mergeKs ps []) (mergeVs ps [] [])
  | .dictP, .lst xs => (pairsOf xs).map fun ps => .dK (mergeKs ps []) (mergeVs ps [] [])
  | _, _ => none
/-- one operand, a new list -/
inductive X1 where
  | list | listRange | sortedI | sortedSetI
  deriving DecidableEq
def insSort (x : Int) : List Int → List Int
  | [] => [x]
  | y :: ys => if x ≤ y then x :: y :: ys else y :: insSort x ys
def sortI : List Int → List Int
  | [] => []
  | x :: xs => insSort x (sortI xs)
def insSet (x : Int) : List Int → List Int
  | [] => [x]
  | y :: ys => if x < y then x :: y :: ys else if x = y then y :: ys else y :: insSet x ys
/-- rising, none twice -/
def setI : List Int → List Int
  | [] => []
  | x :: xs => insSet x (setI xs)
def keyD : Key → D
  | .inl i => .int i
  | .inr x => .str x
def evX1 : X1 → D → Option (List D)
  | .list, .lst xs => some xs
  | .list, .tup xs => some xs
  | .list, .dK ks _ => some (ks.map keyD)
  | .listRange, .int n => if 0 ≤ n ∧ n ≤ 1000 then some (rangeD n) else none
  | .sortedI, .lst xs => (dInts xs).bind fun ns => if ns.length < 64 then some ((sortI ns).map .int) else none
  | .sortedSetI, .lst xs => (dInts xs).bind fun ns => if ns.length < 60 then some ((setI ns).map .int) else none
  | _, _ => none
/-- two operands -/
inductive O2 where
  | add | sub | mul | fdiv | mod | eq | ne | lt | le | gt | ge | inS | ninS | inL | ninL | inD | ninD | isN | nisN | isB | nisB | idx | get1 | index | count
  deriving DecidableEq
def lookD {κ : Type} [DecidableEq κ] (k : κ) : List κ → List D → Option D
  | k' :: ks, v :: vs => if k' = k then some v else lookD k ks vs
  | _, _ => none
def dGet : D → D → Option (Option D)
  | .dK ks vs, k => (keyOf k).map fun q => lookD q ks vs
  | .dT ks vs, .tup xs => (keysOf xs).map fun q => lookD q ks vs
  | _, _ => none
def idxD : D → D → Option D
  | .lst xs, .int i => atI xs i
  | .tup xs, .int i => atI xs i
  | .scr ns, .int i => (atI ns i).map .int
  | .str s, .int i => if s.length ≤ sizeLine then (atI s.cps.toList i).map fun c => .str ⟨#[c]⟩ else none
  | d, k => (dGet d k).bind id
/-- tests that a kernel reads without unfolding a great number -/
def smallI (n : Int) : Bool := Nat.ble n.natAbs 4611686018427387903
def mulOk (i j : Int) : Bool := Nat.ble i.natAbs 18446744073709551615 || Nat.ble j.natAbs 18446744073709551615
theorem smallI_ok {n : Int} (h : smallI n = true) : -(2 ^ 62) ≤ n ∧ n < 2 ^ 62 := by
  have := Nat.le_of_ble_eq_true h
  omega
theorem smallI_of {n : Int} (h : -4611686018427387903 ≤ n ∧ n ≤ 4611686018427387903) : smallI n = true := Nat.ble_eq_true_of_le (by omega)
theorem mulOk_ok {i j : Int} (h : mulOk i j = true) : (-(2 ^ 64) < i ∧ i < 2 ^ 64) ∨ (-(2 ^ 64) < j ∧ j < 2 ^ 64) := by
  unfold mulOk at h
  rw [Bool.or_eq_true] at h
  rcases h with h | h
  · have := Nat.le_of_ble_eq_true h
    exact .inl (by omega)
  · have := Nat.le_of_ble_eq_true h
    exact .inr (by omega)
theorem mulOk_l {i : Int} (h : -18446744073709551615 ≤ i ∧ i ≤ 18446744073709551615) (j : Int) : mulOk i j = true := by
  unfold mulOk
  rw [Nat.ble_eq_true_of_le (show i.natAbs ≤ 18446744073709551615 by omega)]
  rfl
theorem mulOk_r {j : Int} (h : -18446744073709551615 ≤ j ∧ j ≤ 18446744073709551615) (i : Int) : mulOk i j = true := by
  unfold mulOk
  rw [Nat.ble_eq_true_of_le (show j.natAbs ≤ 18446744073709551615 by omega), Bool.or_true]
def addD : D → D → Option D
  | .int i, .int j => some (.int (i + j))
  | .str x, .str y => if x.length + y.length ≤ sizeLine then some (.str (x ++ y)) else none
  | .lst xs, .lst ys => if xs.length + ys.length ≤ sizeLine then some (.lst (xs ++ ys)) else none
  | .tup xs, .tup ys => if xs.length + ys.length ≤ sizeLine then some (.tup (xs ++ ys)) else none
  | _, _ => none
def mulD : D → D → Option D
  | .int i, .int j => if mulOk i j then some (.int (i * j)) else none
  | .lst xs, .int k => if -(2 ^ 63) ≤ k ∧ k < 2 ^ 63 ∧ xs.length * k.toNat ≤ sizeLine then some (.lst (List.replicate k.toNat xs).flatten) else none
  | .tup xs, .int k => if 2 ≤ k ∧ k ≤ 1000 ∧ 0 < xs.length ∧ xs.length ≤ 1000 then some (.tup (List.replicate k.toNat xs).flatten) else none
  | _, _ => none
def eqB (a b : D) : Option Bool := if cmpN dep a && cmpN dep b then some (eqD a b) else none
def ordI (f : Int → Int → Bool) : D → D → Option D
  | .int i, .int j => some (.bl (f i j))
  | _, _ => none
def inSeq (x : D) (xs : List D) : Option Bool := if cmpN dep x && cmpN dep (.lst xs) then some (xs.any fun y => eqD y x) else none
def inStr (x y : Str) : Bool := !(Builtin.Str.occurrences y x 0 y.length 1).isEmpty
def findD (x : D) : List D → Nat → Option Nat
  | [], _ => none
  | y :: ys, j => if eqD y x then some j else findD x ys (j + 1)
def D.isNon : D → Bool
  | .non => true
  | _ => false
def ev2 : O2 → D → D → Option D
  | .add, a, b => addD a b
  | .sub, .int i, .int j => some (.int (i - j))
  | .mul, a, b => mulD a b
  | .fdiv, .int i, .int j => if 0 < j ∧ j < 1073741824 then some (.int (i / j)) else none
  | .mod, .int i, .int j => if 0 < j then some (.int (i % j)) else none
  | .eq, a, b => (eqB a b).map .bl
  | .ne, a, b => (eqB a b).map fun r => .bl (!r)
  | .lt, .str x, .str y => some (.bl (decide (x.cps.toList < y.cps.toList)))
  | .le, .str x, .str y => some (.bl (!decide (y.cps.toList < x.cps.toList)))
  | .lt, a, b => ordI (fun i j => decide (i < j)) a b
  | .le, a, b => ordI (fun i j => decide (i ≤ j)) a b
  | .gt, a, b => ordI (fun i j => decide (j < i)) a b
  | .ge, a, b => ordI (fun i j => decide (j ≤ i)) a b
  | .inS, .str x, .str y => some (.bl (inStr x y))
  | .ninS, .str x, .str y => some (.bl (!inStr x y))
  | .inL, x, .lst ys => (inSeq x ys).map .bl
  | .ninL, x, .lst ys => (inSeq x ys).map fun r => .bl (!r)
  | .inD, k, d => (dGet d k).map fun o => .bl o.isSome
  | .ninD, k, d => (dGet d k).map fun o => .bl o.isNone
  | .isN, .loc _, _ => none
  | .isN, a, .non => some (.bl a.isNon)
  | .nisN, .loc _, _ => none
  | .nisN, a, .non => some (.bl (!a.isNon))
  | .isB, .bl a, .bl b => some (.bl (a == b))
  | .nisB, .bl a, .bl b => some (.bl (!(a == b)))
  | .idx, a, b => idxD a b
  | .get1, d, k => (dGet d k).map fun o => o.getD .non
  | .index, .lst xs, x => if cmpN dep x && cmpN dep (.lst xs) then (findD x xs 0).map fun j => .int (j : Nat) else none
  | .count, .lst xs, .int k => (dInts xs).map fun ns => .int (ns.count k : Nat)
  | _, _, _ => none
/-- a part -/
def cutL {α : Type} (xs : List α) (lo hi : Option Int) : List α := (xs.drop (HT.sIx xs.length 0 lo)).take (HT.sIx xs.length xs.length hi - HT.sIx xs.length 0 lo)
def slD : D → Option Int → Option Int → Option D
  | .lst xs, lo, hi => some (.lst (cutL xs lo hi))
  | .tup xs, lo, hi => some (.tup (cutL xs lo hi))
  | .str s, lo, hi => if s.length ≤ sizeLine then some (.str ⟨(cutL s.cps.toList lo hi).toArray⟩) else none
  | _, _, _ => none
/-- what is walked -/
inductive I1 where
  | seq | range1 | enum | keys | items | chars
  deriving DecidableEq
inductive I2 where
  | range2 | zip
  deriving DecidableEq
def enumD : List D → Nat → List D
  | [], _ => []
  | d :: ds, n => .tup [.int (n : Nat), d] :: enumD ds (n + 1)
def zipD : List D → List D → List D
  | x :: xs, y :: ys => .tup [x, y] :: zipD xs ys
  | _, _ => []
def seqOf : D → Option (List D)
  | .lst xs => some xs
  | .tup xs => some xs
  | _ => none
def evI1 : I1 → D → Option (List D)
  | .seq, d => seqOf d
  | .range1, .int n => if smallI n then some (rangeD n) else none
  | .enum, d => (seqOf d).map fun xs => enumD xs 0
  | .keys, .dK ks _ => some (ks.map keyD)
  | .items, .dK ks vs => some (zipD (ks.map keyD) vs)
  | .items, .dT ks vs => some (zipD (ks.map fun k => .tup (k.map keyD)) vs)
  | .chars, .str s => some (s.cps.toList.map fun c => .str ⟨#[c]⟩)
  | _, _ => none
def evI2 : I2 → D → D → Option (List D)
  | .range2, .int a, .int b => if smallI a && smallI b then some ((List.range (b - a).toNat).map fun i => .int (a + (i : Nat))) else none
  | .zip, .lst xs, .lst ys => some (zipD xs ys)
  | .zip, .tup xs, .tup ys => some (zipD xs ys)
  | _, _, _ => none
/-! ### the text without places -/
inductive Tg where
  | n (i : Nat) | t (l : Tg) | nil | cons (a b : Tg)
inductive T where
  | v (i : Nat) | k (d : D) | g (i : Nat)
  | o1 (o : O1) (a : T) | o2 (o : O2) (a b : T) | sl (a lo hi : T)
  | and (a b : T) | or (a b : T) | not (a : T) | ite (c a b : T) | ch (o p : O2) (a b c : T)
  | tup (as : T) | im (x : T) | mk (x : T) | xl (as : T) | x1 (o : X1) (a : T) | xc (vs : List Nat) (tg : Tg) (it c e : T)
  | it1 (k : I1) (a : T) | it2 (k : I2) (a b : T)
  | call (f : Nat) (as : T) | frz (a : T)
  | app (i : Nat) (e : T) | extd (i : Nat) (e : T)
  | nil | cons (a b : T)
  | bad | told (e : T) | dget (a k x : T) | mkd (tk : Bool) (as : T) | setd (i : Nat) (k v : T) | m1 (o : O2) (a b : T) | popAt (i : Nat) (e : T)
  | imd (tk : Bool) (k v : T) | xcD (vs : List Nat) (tg : Tg) (k : I1) (i : Nat) (c e : T) | forD (tg : Tg) (k : I1) (i : Nat) (b : T)
  | put (i : Nat) (k v : T) | par3 (i j l : Nat) (a b c : T)
  | asg (tg : Tg) (e : T) | par (i j : Nat) (a b : T) | ex (e : T) | ret (e : T) | iff (c a b : T) | for_ (tg : Tg) (it b : T) | whl (c b : T) | rse (c : Nat) | cont | brk | pass
def T.isNil : T → Bool
  | .nil => true
  | _ => false
/-! ### running it -/
def partI (none? : Bool) (x : Sto → R D) (S : Sto) : R (Option Int) := if none? then .ok none S else (x S).bind fun d S => match d with
  | .int i => .ok (some i) S
  | _ => .no
def setT : Tg → D → Rho → Option Rho
  | .n i, d, r => if i < r.length then some (r.set i (some d)) else none
  | .t l, .tup ds, r => setTs l ds r
  | _, _, _ => none
where setTs : Tg → List D → Rho → Option Rho
  | .nil, [], r => some r
  | .cons a b, d :: ds, r => (setT a d r).bind fun r' => setTs b ds r'
  | _, _, _ => none
def wipeR (r : Rho) : List Nat → Rho
  | [] => r
  | v :: vs => (wipeR r vs).set v none
def compL (vs : List Nat) (tg : Tg) (c e : Rho → Sto → R D) (r : Rho) : List D → Sto → List D → R (List D)
  | [], S, acc => .ok acc S
  | d :: ds, S, acc => match setT tg d (wipeR r vs) with
    | none => .no
    | some r1 => match c r1 S with
      | .ok (.bl true) S1 => (match e r1 S1 with
        | .ok y S2 => if acc.length < sizeLine then compL vs tg c e r ds S2 (acc ++ [y]) else .no
        | _ => .no)
      | .ok (.bl false) S1 => compL vs tg c e r ds S1 acc
      | _ => .no
def forL (tg : Tg) (b : Rho → Sto → SR) : List D → Rho → Sto → SR
  | [], r, S => .nx r S
  | d :: ds, r, S => match setT tg d r with
    | none => .no
    | some r1 => match b r1 S with
      | .nx r2 S2 => forL tg b ds r2 S2
      | .ct r2 S2 => forL tg b ds r2 S2
      | .bk r2 S2 => .nx r2 S2
      | x => x
def whileL (c : Rho → Sto → R D) (b : Rho → Sto → SR) : Nat → Rho → Sto → SR
  | 0, _, _ => .no
  | n + 1, r, S => match c r S with
    | .ok (.bl true) S1 => (match b r S1 with
      | .nx r2 S2 => whileL c b n r2 S2
      | .ct r2 S2 => whileL c b n r2 S2
      | .bk r2 S2 => .nx r2 S2
      | x => x)
    | .ok (.bl false) S1 => .nx r S1
    | .ex c S1 => .ex c r S1
    | _ => .no
abbrev fuelW : Nat := 1000000
def slotLoc (r : Rho) (i : Nat) : Option Nat := match r[i]? with
  | some (some (.loc n)) => some n
  | _ => none
def isLst (S : Sto) (n : Nat) : Bool := match S[n]? with
  | some (.lst _) => true
  | _ => false
def appL (S : Sto) (n : Nat) (y : D) : R D := match S[n]? with
  | some (.lst xs) => if xs.length < sizeLine then .ok .non (S.set n (.lst (xs ++ [y]))) else .no
  | _ => .no
def extL (S : Sto) (n : Nat) (y : D) : R D := match S[n]?, y with
  | some (.lst xs), .lst ys => if xs.length + ys.length ≤ sizeLine then .ok .non (S.set n (.lst (xs ++ ys))) else .no
  | _, _ => .no
def isDic : D → Bool
  | .dK _ _ => true
  | .dT _ _ => true
  | _ => false
/-- d[k] = v -/
def putS (S : Sto) (n : Nat) (k v : D) : Option Sto := match S[n]?, k with
  | some (.dK ks vs), k => if ks.length < sizeLine then (keyOf k).map fun q => S.set n (.dK (putKs q ks) (putVs q v ks vs)) else none
  | some (.dT ks vs), .tup xs => if ks.length < sizeLine then (keysOf xs).map fun q => S.set n (.dT (putKs q ks) (putVs q v ks vs)) else none
  | _, _ => none
def isPut (S : Sto) (n : Nat) : Bool := match S[n]? with
  | some (.dK _ _) => true
  | some (.dT _ _) => true
  | _ => false
def isPutT (S : Sto) (n : Nat) : Bool := match S[n]? with
  | some (.dT _ _) => true
  | _ => false
/-- the pairs of a display -/
def dispD (tk : Bool) : List D → Option Cell
  | [] => some (if tk then .dT [] [] else .dK [] [])
  | [k, v] => if tk then (match k with | .tup xs => (keysOf xs).map fun q => .dT [q] [v] | _ => none) else (keyOf k).map fun q => .dK [q] [v]
  | _ => none
def popL (S : Sto) (n : Nat) (i : Int) : R D := match S[n]? with
  | some (.lst xs) => (match ixN xs.length i with
    | some j => (match xs[j]? with | some y => .ok y (S.set n (.lst (xs.eraseIdx j))) | none => .no)
    | none => .no)
  | _ => .no
/-- what is walked of a dict that does not change -/
def dWalk : I1 → D → Option (List D)
  | .items, .dT ks vs => some (zipD (ks.map fun k => .tup (k.map keyD)) vs)
  | .items, .dK ks vs => some (zipD (ks.map keyD) vs)
  | .keys, .dT ks _ => some (ks.map fun k => .tup (k.map keyD))
  | .keys, .dK ks _ => some (ks.map keyD)
  | _, _ => none
def isL : D → Bool
  | .lst _ => true
  | _ => false
/-- a refusal's name -/
def nmOf : Nat → Str
  | 0 => "no plan"
  | 1 => "no tells"
  | 2 => "no mode"
  | 3 => "no press"
  | 4 => "no wants"
  | 5 => "no back"
  | 6 => "no text"
  | 7 => "no deed"
  | 8 => "no number"
  | _ => "no keys"
def tab0 (S : Sto) : Bool := match (S[0]? : Option Cell) with
  | some .tab => true
  | _ => false
/-- the defs and constants of the text -/
structure Env' where
  F : Nat → List D → P
  G : Nat → D
def callP (F : List D → P) (ds : List D) (S : Sto) : R D := if ds.all (okN dep) then (match F ds with
  | .ok d => .ok d S
  | .ex c => .ex c S
  | .no => .no) else .no
section
variable (E : Env')
mutual
def evE : T → Rho → Sto → R D
  | .v i, r, S => (match r[i]? with | some (some d) => .ok d S | _ => .no)
  | .k d, _, S => .ok d S
  | .g i, _, S => .ok (E.G i) S
  | .o1 o a, r, S => (evE a r S).bind fun d S => R.opt (ev1 o (res S d)) S
  | .o2 o a b, r, S => (evE a r S).bind fun x S => (evE b r S).bind fun y S => R.opt (ev2 o (res S x) (res S y)) S
  | .sl a lo hi, r, S => (evE a r S).bind fun x S => (partI lo.isNil (fun S => evE lo r S) S).bind fun l S => (partI hi.isNil (fun S => evE hi r S) S).bind fun h S => R.opt (slD (res S x) l h) S
  | .and a b, r, S => (evE a r S).bind fun x S => (match x with | .bl true => evE b r S | .bl false => .ok (.bl false) S | _ => .no)
  | .or a b, r, S => (evE a r S).bind fun x S => (match x with | .bl true => .ok (.bl true) S | .bl false => evE b r S | _ => .no)
  | .not a, r, S => (evE a r S).bind fun x S => (match x with | .bl b => .ok (.bl (!b)) S | _ => .no)
  | .ite c a b, r, S => (evE c r S).bind fun x S => (match x with | .bl true => evE a r S | .bl false => evE b r S | _ => .no)
  | .ch o p a b c, r, S => (evE a r S).bind fun x S => (evE b r S).bind fun y S => (match ev2 o (res S x) (res S y) with
    | some (.bl true) => (evE c r S).bind fun z S => R.opt (ev2 p (res S y) (res S z)) S
    | some (.bl false) => .ok (.bl false) S
    | _ => .no)
  | .tup as, r, S => (evA as r S).bind fun ds S => if ds.length ≤ sizeLine then .ok (.tup ds) S else .no
  | .im x, r, S => (evX x r S).bind fun ds S => .ok (.lst ds) S
  | .mk x, r, S => (evX x r S).bind fun ds S => .ok (.loc S.length) (S ++ [.lst ds])
  | .call f as, r, S => (evA as r S).bind fun ds S => callP (E.F f) ds S
  | .frz a, r, S => (evE a r S).bind fun d S => (match d with
    | .loc n => (match S[n]? with
      | some (.lst xs) => .ok (.lst xs) (S.set n (.frz (.lst xs)))
      | some (.dK ks vs) => .ok (.dK ks vs) (S.set n (.frz (.dK ks vs)))
      | some (.dT ks vs) => .ok (.dT ks vs) (S.set n (.frz (.dT ks vs)))
      | some (.frz e) => .ok e S
      | _ => .no)
    | d => .ok d S)
  | .app i e, r, S => (match slotLoc r i with
    | none => .no
    | some n => if isLst S n then (evE e r S).bind fun y S => appL S n y else .no)
  | .extd i e, r, S => (match slotLoc r i with
    | none => .no
    | some n => if isLst S n then (evE e r S).bind fun y S => extL S n (res S y) else .no)
  | .told e, r, S => if tab0 S then (match evE e r S with
    | .ok d S => .ok d S
    | .ex c S => if c < 10 then .ok (.str (nmOf c)) S else .no
    | .no => .no) else .no
  | .dget a k x, r, S => (evE a r S).bind fun d S => if isDic (res S d) then (evE k r S).bind fun y S => if x.isNil then (match dGet (res S d) (res S y) with | some o => .ok (o.getD .non) S | none => .no)
    else (evE x r S).bind fun z S => (match dGet (res S d) (res S y) with | some o => .ok (o.getD z) S | none => .no)
    else .no
  | .imd tk k v, r, S => (evE k r S).bind fun a S => (evE v r S).bind fun b S => (match dispD tk [a, b] with
    | some (.dK ks vs) => .ok (.dK ks vs) S
    | some (.dT ks vs) => .ok (.dT ks vs) S
    | _ => .no)
  | .mkd tk as, r, S => (evA as r S).bind fun ds S => (match dispD tk ds with | some c => .ok (.loc S.length) (S ++ [c]) | none => .no)
  | .setd i k v, r, S => (match slotLoc r i with
    | none => .no
    | some n => if isPutT S n then (evE k r S).bind fun y S => (evE v r S).bind fun z S => (match S[n]? with
      | some (.dT ks vs) => (match res S y with
        | .tup xs => (match keysOf xs with
          | some q => if ks.length < sizeLine then (match lookD q ks vs with
            | some w => .ok w S
            | none => .ok z (S.set n (.dT (putKs q ks) (putVs q z ks vs)))) else .no
          | none => .no)
        | _ => .no)
      | _ => .no) else .no)
  | .m1 o a b, r, S => (evE a r S).bind fun d S => if isL (res S d) then (evE b r S).bind fun y S => R.opt (ev2 o (res S d) (res S y)) S else .no
  | .popAt i e, r, S => (match slotLoc r i with
    | none => .no
    | some n => if isLst S n then (evE e r S).bind fun y S => (match y with | .int k => popL S n k | _ => .no) else .no)
  | _, _, _ => .no
def evA : T → Rho → Sto → R (List D)
  | .nil, _, S => .ok [] S
  | .cons a b, r, S => (evE a r S).bind fun d S => (evA b r S).bind fun ds S => .ok (d :: ds) S
  | _, _, _ => .no
def evX : T → Rho → Sto → R (List D)
  | .xl as, r, S => (evA as r S).bind fun ds S => if ds.length ≤ sizeLine then .ok ds S else .no
  | .x1 o a, r, S => (evE a r S).bind fun d S => R.opt (evX1 o (res S d)) S
  | .xcD vs tg k i c e, r, S => (match r[i]? with
    | some (some d) => (match dWalk k d with
      | some ds => compL vs tg (fun r S => if c.isNil then .ok (.bl true) S else evE c r S) (fun r S => evE e r S) r ds S []
      | none => .no)
    | _ => .no)
  | .xc vs tg it c e, r, S => (evI it r S).bind fun ds S => compL vs tg (fun r S => if c.isNil then .ok (.bl true) S else evE c r S) (fun r S => evE e r S) r ds S []
  | _, _, _ => .no
def evI : T → Rho → Sto → R (List D)
  | .it1 k a, r, S => (evE a r S).bind fun d S => (match d with | .loc _ => .no | d => R.opt (evI1 k d) S)
  | .it2 k a b, r, S => (evE a r S).bind fun x S => (evE b r S).bind fun y S => R.opt (evI2 k x y) S
  | _, _, _ => .no
end
def evS : T → Rho → Sto → SR
  | .nil, r, S => .nx r S
  | .cons a b, r, S => (match evS a r S with
    | .nx r S => evS b r S
    | x => x)
  | .asg tg e, r, S => (match evE E e r S with
    | .ok d S => (match setT tg d r with | some r' => .nx r' S | none => .no)
    | .ex c S => .ex c r S
    | .no => .no)
  | .par i j a b, r, S => (match evE E a r S with
    | .ok d S => (match evE E b r S with
      | .ok e S => if i < r.length ∧ j < r.length then .nx ((r.set i (some d)).set j (some e)) S else .no
      | .ex c S => .ex c r S
      | .no => .no)
    | .ex c S => .ex c r S
    | .no => .no)
  | .par3 i j l a b c, r, S => (match evE E a r S with
    | .ok d S => (match evE E b r S with
      | .ok e S => (match evE E c r S with
        | .ok f S => if i < r.length ∧ j < r.length ∧ l < r.length then .nx (((r.set i (some d)).set j (some e)).set l (some f)) S else .no
        | .ex c S => .ex c r S
        | .no => .no)
      | .ex c S => .ex c r S
      | .no => .no)
    | .ex c S => .ex c r S
    | .no => .no)
  | .put i k v, r, S => (match evE E v r S with
    | .ok z S => (match slotLoc r i with
      | some n => if isPut S n then (match evE E k r S with
        | .ok y S => (match putS S n (res S y) z with | some S' => .nx r S' | none => .no)
        | .ex c S => .ex c r S
        | .no => .no) else .no
      | none => .no)
    | .ex c S => .ex c r S
    | .no => .no)
  | .ex e, r, S => (match evE E e r S with
    | .ok _ S => .nx r S
    | .ex c S => .ex c r S
    | .no => .no)
  | .ret e, r, S => (match evE E e r S with
    | .ok d S => .rt d S
    | .ex c S => .ex c r S
    | .no => .no)
  | .iff c a b, r, S => (match evE E c r S with
    | .ok (.bl true) S => evS a r S
    | .ok (.bl false) S => evS b r S
    | .ex c S => .ex c r S
    | _ => .no)
  | .for_ tg it b, r, S => (match evI E it r S with
    | .ok ds S => forL tg (fun r S => evS b r S) ds r S
    | .ex c S => .ex c r S
    | .no => .no)
  | .forD tg k i b, r, S => (match r[i]? with
    | some (some d) => (match dWalk k d with
      | some ds => (match forL tg (fun r S => evS b r S) ds r S with
        | .ex _ _ _ => .no
        | x => x)
      | none => .no)
    | _ => .no)
  | .whl c b, r, S => whileL (fun r S => evE E c r S) (fun r S => evS b r S) fuelW r S
  | .rse c, r, S => .ex c r S
  | .cont, r, S => .ct r S
  | .brk, r, S => .bk r S
  | .pass, r, S => .nx r S
  | _, _, _ => .no
end
/-- a def without changing arguments: n of them, slots in all -/
def runDef (E : Env') (n many : Nat) (body : T) (ds : List D) : P := if ds.length = n then
  match evS E body (ds.map some ++ List.replicate (many - ds.length) none) [] with
  | .rt d _ => if okN dep d then .ok d else .no
  | .nx _ _ => .ok .non
  | .ex c _ _ => .ex c
  | _ => .no
  else .no
/-- the law, its table of code objects at hand -/
def runLaw (E : Env') (n many : Nat) (body : T) (ds : List D) : P := if ds.length = n then
  match evS E body (ds.map some ++ List.replicate (many - ds.length) none) [.tab] with
  | .rt d _ => if okN dep d then .ok d else .no
  | .nx _ _ => .ok .non
  | .ex c _ _ => .ex c
  | _ => .no
  else .no
end Bp

namespace Bp
open PySem L2
/-! ### where a body stands -/
structure Cg where
  N : List Str
  sc : Scope
  fn : Str → Bool
  lv : Nat
  fns : List Str
  exs : List Str
  cons : List Str
  cls : Nat → Value
  E : Env'
  told : Bool
def blts : List Str := ["len", "range", "isinstance", "int", "bool", "str", "tuple", "list", "all", "any", "sorted", "set", "dict", "min", "max", "sum", "abs", "enumerate", "zip", "ValueError"]
structure Ctx (C : Cg) (X : Cx) : Prop where
  hN : X.N = C.N
  nd : X.N.Nodup
  sc : X.env.scope = C.sc
  fn : ∀ x, C.fn x = true → X.fn x = true
  calm : X.calm = true
  room : Room C.lv X.A
  blt : ∀ x ∈ blts, X.mg x = none
def glb (C : Cg) (x : Str) : Bool := decide (C.sc.names.lookup x = some .globalImplicit)
theorem Ctx.gl {C : Cg} {X : Cx} (c : Ctx C X) {x : Str} (h : glb C x = true) : Gl X x := by
  show X.env.scope.names.lookup x = _
  rw [c.sc]
  exact of_decide_eq_true h
def ns : Expr → Bool
  | .Starred _ _ => false
  | _ => true
theorem ns_star {e : Expr} (h : ns e = true) (es : List Expr) (env : Env) : starEach (e :: es) env = (false, eval e env) :: starEach es env := by
  cases e <;> first | rfl | cases h
theorem PE.imp {X : Cx} {e : Expr} {t t' : TE} (h : PE X e t) (k : ∀ σ H Q, t' σ H Q → t σ H Q) : PE X e t' := ⟨fun pins s σ H Q I q => h.run pins s σ H Q I (k σ H Q q)⟩
theorem PT.imp {X : Cx} {e : Expr} {t t' : TT} (h : PT X e t) (k : ∀ σ H Q, t' σ H Q → t σ H Q) : PT X e t' := ⟨fun pins s σ H Q I q => h.run pins s σ H Q I (k σ H Q q)⟩
theorem PA.imp {X : Cx} {e : List Expr} {t t' : TA} (h : PA X e t) (k : ∀ σ H Q, t' σ H Q → t σ H Q) : PA X e t' := ⟨fun p pins s σ H Q I q => h.run p pins s σ H Q I (k σ H Q q)⟩
theorem PS.imp {X : Cx} {e : Stmt} {t t' : TS} (h : PS X e t) (k : ∀ D σ H, t' D σ H → t D σ H) : PS X e t' := ⟨fun pins s σ H D I q => h.run pins s σ H D I (k D σ H q)⟩
theorem PSs.imp {X : Cx} {e : List Stmt} {t t' : TS} (h : PSs X e t) (k : ∀ D σ H, t' D σ H → t D σ H) : PSs X e t' := ⟨fun pins s σ H D I q => h.run pins s σ H D I (k D σ H q)⟩
theorem opr_imp {X : Cx} {f : Value → Value → Sem Value} {r r' : R2} (h : OpR X f r) (k : ∀ x y H Q, r' x y H Q → r x y H Q) : OpR X f r' := fun pins s σ H x y v u Q I rx ry q => h pins s σ H x y v u Q I rx ry (k _ _ _ _ q)
theorem callr_imp {X : Cx} {f : Value} {r r' : List V → Hp → VK → Prop} (h : CallR X f r) (k : ∀ xs H Q, r' xs H Q → r xs H Q) : CallR X f r' := fun pins s σ H xs us Q I rx q => h pins s σ H xs us Q I rx (k _ _ _ q)
/-! ### what stands at a value, looked at now -/
inductive Tp (K : PySem.W.Frag) (I : Hp) (M : List Addr) (H : Hp) : V → D → Prop
  | non : Tp K I M H .non .non
  | bl (b : Bool) : Tp K I M H (.bl b) (.bl b)
  | int (i : Int) : Tp K I M H (.int i) (.int i)
  | str {x : Str} : sOk x = true → Tp K I M H (.str x) (.str x)
  | tup {a : Addr} {xs : List V} {ds : List D} : I a = some (.tup xs) → H a = some (.tup xs) → RpA K I M xs ds → Tp K I M H (.ref a) (.tup ds)
  | lst {a : Addr} {xs : List V} {ds : List D} : H a = some (.lst xs) → RpA K I M xs ds → Tp K I M H (.ref a) (.lst ds)
  | dK {a : Addr} {kvs : List (Key × V)} {ks : List Key} {ds : List D} : Rd H a (.dK kvs) → kvs.map (·.1) = ks ∧ ks.all kOk = true → RpA K I M (kvs.map (·.2)) ds → Tp K I M H (.ref a) (.dK ks ds)
  | dT {a : Addr} {kvs : List (List Key × V)} {ks : List (List Key)} {ds : List D} : Rd H a (.dT kvs) → kvs.map (·.1) = ks ∧ (ks.all fun k => k.all kOk) = true → RpA K I M (kvs.map (·.2)) ds → Tp K I M H (.ref a) (.dT ks ds)
  | scr {a : Addr} {ns : List Int} : SqL K H a (ns.map V.int) → Tp K I M H (.ref a) (.scr ns)
  | loc {a : Addr} {n : Nat} : Tp K I M H (.ref a) (.loc n)
section
variable {K : PySem.W.Frag} {B : Fm} {I : Hp} {M : List Addr} {S : Sto} {H : Hp}
theorem Rp.top0 (R : Rel K B I M S H) {v : V} {d : D} (r : Rp K I M v d) : Tp K I M H v d := by
  cases r with
  | non => exact .non
  | bl b => exact .bl b
  | int i => exact .int i
  | str h => exact .str h
  | tup h r => exact .tup h (R.pl _ _ h rfl) r
  | lst h r => exact .lst (R.pl _ _ h rfl) r
  | dK h k r => exact .dK (R.rd h) k r
  | dT h k r => exact .dT (R.rd h) k r
  | scr h => exact .scr (sqL_pl R.pl h)
  | loc h => exact .loc
theorem Rel.top (R : Rel K B I M S H) {v : V} {d : D} (r : Rp K I M v d) : Tp K I M H v (res S d) := by
  by_cases hl : ∃ n, d = .loc n
  · obtain ⟨n, rfl⟩ := hl
    cases r with
    | loc h =>
      rename_i a
      obtain ⟨c, o, hc, ho⟩ := R.there h
      have ck := R.cell n a c h hc
      show Tp K I M H (.ref a) (match S[n]? with | some (.lst xs) => .lst xs | some (.dK ks vs) => .dK ks vs | some (.dT ks vs) => .dT ks vs | some (.frz e) => e | some .tab => .loc n | none => .loc n)
      rw [hc]
      cases c with
      | lst ds => obtain ⟨_, vs, h1, h2⟩ := ck; exact .lst h1 h2
      | dK ks ds => obtain ⟨_, vs, h1, h2, h3⟩ := ck; exact .dK (.inl h1) h2 h3
      | dT ks ds => obtain ⟨_, vs, h1, h2, h3⟩ := ck; exact .dT (.inl h1) h2 h3
      | frz e => exact Rp.top0 R ck.1
      | tab => exact .loc
  · have e : res S d = d := by
      cases d <;> first | rfl | exact absurd ⟨_, rfl⟩ hl
    rw [e]
    exact Rp.top0 R r
end
/-! ### readings -/
def Sl (K : PySem.W.Frag) (I : Hp) (M : List Addr) (r : Rho) (σ : St) : Prop := r.length = σ.length ∧ ∀ (i : Nat) d, r[i]? = some (some d) → ∃ v, σ[i]? = some (some v) ∧ Rp K I M v d
theorem Sl.mono {K : PySem.W.Frag} {I I' : Hp} {M M' : List Addr} {r : Rho} {σ : St} (h : Sl K I M r σ) (e : Le I M I' M') : Sl K I' M' r σ := ⟨h.1, fun i d q => let ⟨v, a, b⟩ := h.2 i d q; ⟨v, a, b.mono e⟩⟩
def okP (K : PySem.W.Frag) (B : Fm) (I : Hp) (M : List Addr) (d : D) (S : Sto) (Q : VK) : Prop := ∀ I' M' H' v, Le I M I' M' → Rel K B I' M' S H' → Rp K I' M' v d → Q v H'
theorem okP.mono {K : PySem.W.Frag} {B : Fm} {I I' : Hp} {M M' : List Addr} {d : D} {S : Sto} {Q : VK} (h : okP K B I M d S Q) (e : Le I M I' M') : okP K B I' M' d S Q := fun I2 M2 H2 v e2 => h I2 M2 H2 v (e.trans e2)
def exP (K : PySem.W.Frag) (B : Fm) (I : Hp) (M : List Addr) (S : Sto) (Q : Hp → Prop) : Prop := ∀ I' M' H', Le I M I' M' → Rel K B I' M' S H' → Q H'
theorem exP.mono {K : PySem.W.Frag} {B : Fm} {I I' : Hp} {M M' : List Addr} {S : Sto} {Q : Hp → Prop} (h : exP K B I M S Q) (e : Le I M I' M') : exP K B I' M' S Q := fun I2 M2 H2 e2 => h I2 M2 H2 (e.trans e2)
/-- what is wanted of an exception: its class by number -/
abbrev WN := Nat → St → Hp → Prop
def tE (C : Cg) (K : PySem.W.Frag) (B : Fm) (W : WN) (t : T) : TE := fun σ H Q => ∃ I M r S, Rel K B I M S H ∧ Sl K I M r σ ∧ (match evE C.E t r S with
  | .ok d S' => okP K B I M d S' Q
  | .ex c S' => exP K B I M S' (W c σ)
  | .no => False)
def okA (K : PySem.W.Frag) (B : Fm) (I : Hp) (M : List Addr) (ds : List D) (S : Sto) (Q : List V → Hp → Prop) : Prop := ∀ I' M' H' vs, Le I M I' M' → Rel K B I' M' S H' → RpA K I' M' vs ds → Q vs H'
def tA (C : Cg) (K : PySem.W.Frag) (B : Fm) (W : WN) (t : T) : TA := fun σ H Q => ∃ I M r S, Rel K B I M S H ∧ Sl K I M r σ ∧ (match evA C.E t r S with
  | .ok ds S' => okA K B I M ds S' Q
  | .ex c S' => exP K B I M S' (W c σ)
  | .no => False)
/-- a new list, not yet held as anything -/
def okX (K : PySem.W.Frag) (B : Fm) (I : Hp) (M : List Addr) (ds : List D) (S : Sto) (Q : VK) : Prop := ∀ I' M' H' p vs, Le I M I' M' → Rel K B I' M' S H' → RpA K I' M' vs ds → H' p = none → Q (.ref p) (upd H' p (.lst vs))
def tX (C : Cg) (K : PySem.W.Frag) (B : Fm) (W : WN) (t : T) : TE := fun σ H Q => ∃ I M r S, Rel K B I M S H ∧ Sl K I M r σ ∧ (match evX C.E t r S with
  | .ok ds S' => okX K B I M ds S' Q
  | .ex c S' => exP K B I M S' (W c σ)
  | .no => False)
/-- by values -/
def r1 (K : PySem.W.Frag) (B : Fm) (f : D → Option D) : V → Hp → VK → Prop := fun x H Q => ∃ I M S d z, Rel K B I M S H ∧ Rp K I M x d ∧ f (res S d) = some z ∧ okP K B I M z S Q
def r2 (K : PySem.W.Frag) (B : Fm) (f : D → D → Option D) : R2 := fun x y H Q => ∃ I M S d e z, Rel K B I M S H ∧ Rp K I M x d ∧ Rp K I M y e ∧ f (res S d) (res S e) = some z ∧ okP K B I M z S Q
def rX1 (K : PySem.W.Frag) (B : Fm) (f : D → Option (List D)) : V → Hp → VK → Prop := fun x H Q => ∃ I M S d z, Rel K B I M S H ∧ Rp K I M x d ∧ f (res S d) = some z ∧ okX K B I M z S Q
def rSl (K : PySem.W.Frag) (B : Fm) : V → Option Int → Option Int → Hp → VK → Prop := fun x lo hi H Q => ∃ I M S d z, Rel K B I M S H ∧ Rp K I M x d ∧ slD (res S d) lo hi = some z ∧ okP K B I M z S Q
section
variable {C : Cg} {K : PySem.W.Frag} {B : Fm} {W : WN} {σ : St} {H : Hp} {Q : VK}
theorem tE_o1 {o : O1} {a : T} (h : tE C K B W (.o1 o a) σ H Q) : tE C K B W a σ H fun x H1 => r1 K B (ev1 o) x H1 Q := by
  obtain ⟨I, M, r, S, R, sl, m⟩ := h
  refine ⟨I, M, r, S, R, sl, ?_⟩
  simp only [evE] at m
  cases e : evE C.E a r S with
  | ok d S1 =>
    rw [e] at m
    simp only [Bp.R.bind, Bp.R.opt] at m
    cases e1 : ev1 o (res S1 d) with
    | none => rw [e1] at m; exact m.elim
    | some z =>
      rw [e1] at m
      exact fun I' M' H' v le R' rp => ⟨I', M', S1, d, z, R', rp, e1, m.mono le⟩
  | ex c S1 => rw [e] at m; exact m
  | no => rw [e] at m; exact m
theorem tX_x1 {o : X1} {a : T} (h : tX C K B W (.x1 o a) σ H Q) : tE C K B W a σ H fun x H1 => rX1 K B (evX1 o) x H1 Q := by
  obtain ⟨I, M, r, S, R, sl, m⟩ := h
  refine ⟨I, M, r, S, R, sl, ?_⟩
  simp only [evX] at m
  cases e : evE C.E a r S with
  | ok d S1 =>
    rw [e] at m
    simp only [Bp.R.bind, Bp.R.opt] at m
    cases e1 : evX1 o (res S1 d) with
    | none => rw [e1] at m; exact m.elim
    | some z =>
      rw [e1] at m
      exact fun I' M' H' v le R' rp => ⟨I', M', S1, d, z, R', rp, e1, fun I2 M2 H2 p vs le2 => m I2 M2 H2 p vs (le.trans le2)⟩
  | ex c S1 => rw [e] at m; exact m
  | no => rw [e] at m; exact m
theorem tE_o2 {o : O2} {a b : T} (h : tE C K B W (.o2 o a b) σ H Q) : tE C K B W a σ H fun x H1 => tE C K B W b σ H1 fun y H2 => r2 K B (ev2 o) x y H2 Q := by
  obtain ⟨I, M, r, S, R, sl, m⟩ := h
  refine ⟨I, M, r, S, R, sl, ?_⟩
  simp only [evE] at m
  cases e : evE C.E a r S with
  | ok d S1 =>
    rw [e] at m
    simp only [Bp.R.bind] at m
    refine fun I1 M1 H1 v le R1 rp => ⟨I1, M1, r, S1, R1, sl.mono le, ?_⟩
    cases e1 : evE C.E b r S1 with
    | ok d2 S2 =>
      rw [e1] at m
      simp only [Bp.R.opt] at m
      cases e2 : ev2 o (res S2 d) (res S2 d2) with
      | none => rw [e2] at m; exact m.elim
      | some z =>
        rw [e2] at m
        exact fun I2 M2 H2 u le2 R2 rp2 => ⟨I2, M2, S2, d, d2, z, R2, rp.mono le2, rp2, e2, okP.mono m (le.trans le2)⟩
    | ex c S2 => rw [e1] at m; exact exP.mono m le
    | no => rw [e1] at m; exact m
  | ex c S1 => rw [e] at m; exact m
  | no => rw [e] at m; exact m
end
/-! ### equality -/
theorem sOk_strOk {x : Str} (h : sOk x = true) : PySem.PyData.strOk x = true := h
theorem dpAll_ints {K : PySem.W.Frag} {H : Hp} : ∀ ns : List Int, DpAll K H (ns.map V.int) (ns.map PyData.int)
  | [] => .nil
  | n :: ns => .cons (.int n) (dpAll_ints ns)
theorem lay_ints : ∀ ns : List Int, PyData.canLayAll0 (ns.map PyData.int) = true
  | [] => rfl
  | n :: ns => by simp [PyData.canLayAll0, PyData.canLay0, lay_ints ns]
theorem dep_ints : ∀ ns : List Int, PyData.depthAll (ns.map PyData.int) = 0
  | [] => rfl
  | n :: ns => by simp [PyData.depthAll, PyData.depth, dep_ints ns]
theorem cmp_all {K : PySem.W.Frag} {I H : Hp} {M : List Addr} (n : Nat) (ih : ∀ (d : D) (v : V), cmpN n d = true → Rp K I M v d → Dp K H v d.py ∧ d.py.canLay0 = true ∧ d.py.depth ≤ n) :
    ∀ {vs : List V} {ds : List D}, RpA K I M vs ds → ds.all (cmpN n) = true → DpAll K H vs (D.pys ds) ∧ PyData.canLayAll0 (D.pys ds) = true ∧ PyData.depthAll (D.pys ds) ≤ n
  | _, _, .nil, _ => ⟨.nil, rfl, by simp [D.pys, PyData.depthAll]⟩
  | _, _, .cons (d := d) (ds := ds) h t, hc => by
    simp only [List.all_cons, Bool.and_eq_true] at hc
    obtain ⟨a1, a2, a3⟩ := ih _ _ hc.1 h
    obtain ⟨b1, b2, b3⟩ := cmp_all n ih t hc.2
    refine ⟨.cons a1 b1, ?_, ?_⟩
    · show (PyData.canLay0 d.py && PyData.canLayAll0 (D.pys ds)) = true
      rw [a2, b2]; rfl
    · show max d.py.depth (PyData.depthAll (D.pys ds)) ≤ n
      omega
theorem cmp_dp {K : PySem.W.Frag} {I H : Hp} {M : List Addr} (e : Pl I H) : ∀ (n : Nat) (d : D) (v : V), cmpN n d = true → Rp K I M v d → Dp K H v d.py ∧ d.py.canLay0 = true ∧ d.py.depth ≤ n := by
  intro n
  induction n with
  | zero => intro d v h; simp [cmpN] at h
  | succ n ih =>
    intro d v h r
    cases r with
    | non => exact ⟨.non, rfl, by simp [D.py, PyData.depth]⟩
    | bl b => exact ⟨.bl b, rfl, by simp [D.py, PyData.depth]⟩
    | int i => exact ⟨.int i, rfl, by simp [D.py, PyData.depth]⟩
    | str hs => exact ⟨.str _, hs, by simp [D.py, PyData.depth]⟩
    | tup a t =>
      obtain ⟨b1, b2, b3⟩ := cmp_all n ih t h
      exact ⟨.tup (SqT.of (e _ _ a rfl)) b1, b2, Nat.succ_le_succ b3⟩
    | lst a t =>
      obtain ⟨b1, b2, b3⟩ := cmp_all n ih t h
      exact ⟨.lst (SqL.of (e _ _ a rfl)) b1, b2, Nat.succ_le_succ b3⟩
    | scr a =>
      rename_i ad nsx
      refine ⟨.lst (sqL_pl e a) (dpAll_ints _), lay_ints _, ?_⟩
      show PyData.depthAll (nsx.map PyData.int) + 1 ≤ n + 1
      rw [dep_ints]; omega
    | dK _ _ _ => cases h
    | dT _ _ _ => cases h
    | loc _ => cases h
theorem cmp_top {K : PySem.W.Frag} {I H : Hp} {M : List Addr} (e : Pl I H) {d : D} {v : V} (h : cmpN dep d = true) (r : Tp K I M H v d) : Dp K H v d.py ∧ SeqAt.shaped d.py = true := by
  have fin : ∀ p : PyData, p.canLay0 = true → p.depth ≤ dep → SeqAt.shaped p = true := fun p a b => by
    unfold SeqAt.shaped
    rw [a, decide_eq_true (Nat.le_trans b (by decide))]; rfl
  cases r with
  | non => exact ⟨.non, fin _ rfl (by simp [D.py, PyData.depth])⟩
  | bl b => exact ⟨.bl b, fin _ rfl (by simp [D.py, PyData.depth])⟩
  | int i => exact ⟨.int i, fin _ rfl (by simp [D.py, PyData.depth])⟩
  | str hs => exact ⟨.str _, fin _ hs (by simp [D.py, PyData.depth])⟩
  | tup a a2 t =>
    obtain ⟨b1, b2, b3⟩ := cmp_all 59 (fun d v => cmp_dp e 59 d v) t h
    exact ⟨.tup (SqT.of a2) b1, fin _ b2 (Nat.succ_le_succ b3)⟩
  | lst a t =>
    obtain ⟨b1, b2, b3⟩ := cmp_all 59 (fun d v => cmp_dp e 59 d v) t h
    exact ⟨.lst (SqL.of a) b1, fin _ b2 (Nat.succ_le_succ b3)⟩
  | scr a =>
    rename_i ad nsx
    refine ⟨.lst a (dpAll_ints _), fin _ (lay_ints _) ?_⟩
    show PyData.depthAll (nsx.map PyData.int) + 1 ≤ 60
    rw [dep_ints]; decide
  | dK _ _ _ => cases h
  | dT _ _ _ => cases h
  | loc => cases h
end Bp

namespace Bp
open PySem L2
/-! ### small things -/
section
variable {K : PySem.W.Frag} {B : Fm} {I : Hp} {M : List Addr} {S : Sto} {H : Hp} {Q : VK}
theorem okP.now {d : D} {v : V} (h : okP K B I M d S Q) (R : Rel K B I M S H) (r : Rp K I M v d) : Q v H := h I M H v Le.refl R r
theorem okP.newTup {ds : List D} {vs : List V} (h : okP K B I M (.tup ds) S Q) (R : Rel K B I M S H) (r : RpA K I M vs ds) {p : Addr} (hp : H p = none) : Q (.ref p) (upd H p (.tup vs)) := by
  obtain ⟨R', le⟩ := R.new (o := .tup vs) hp
  exact h _ _ _ _ le R' (.tup upd_same (r.mono le))
theorem okP.newLst {ds : List D} {vs : List V} (h : okP K B I M (.lst ds) S Q) (R : Rel K B I M S H) (r : RpA K I M vs ds) {p : Addr} (hp : H p = none) : Q (.ref p) (upd H p (.lst vs)) := by
  obtain ⟨R', le⟩ := R.new (o := .lst vs) hp
  exact h _ _ _ _ le R' (.lst upd_same (r.mono le))
theorem okX.now {ds : List D} {vs : List V} (h : okX K B I M ds S Q) (R : Rel K B I M S H) (r : RpA K I M vs ds) {p : Addr} (hp : H p = none) : Q (.ref p) (upd H p (.lst vs)) := h I M H p vs Le.refl R r hp
theorem dBools_map : ∀ {ds : List D} {bs : List Bool}, dBools ds = some bs → ds = bs.map D.bl
  | [], _, h => by cases h; rfl
  | d :: ds, bs, h => by
    cases d <;> simp only [dBools, reduceCtorEq] at h
    cases e : dBools ds with
    | none => rw [e] at h; cases h
    | some cs => rw [e] at h; cases h; rw [dBools_map e]; rfl
theorem dInts_map : ∀ {ds : List D} {bs : List Int}, dInts ds = some bs → ds = bs.map D.int
  | [], _, h => by cases h; rfl
  | d :: ds, bs, h => by
    cases d <;> simp only [dInts, reduceCtorEq] at h
    cases e : dInts ds with
    | none => rw [e] at h; cases h
    | some cs => rw [e] at h; cases h; rw [dInts_map e]; rfl
theorem dStrs_map : ∀ {ds : List D} {bs : List Str}, dStrs ds = some bs → ds = bs.map D.str
  | [], _, h => by cases h; rfl
  | d :: ds, bs, h => by
    cases d <;> simp only [dStrs, reduceCtorEq] at h
    cases e : dStrs ds with
    | none => rw [e] at h; cases h
    | some cs => rw [e] at h; cases h; rw [dStrs_map e]; rfl
theorem cutL_map {α β : Type} (f : α → β) (xs : List α) (lo hi : Option Int) : (cutL xs lo hi).map f = cutL (xs.map f) lo hi := by
  unfold cutL
  rw [List.map_take, List.map_drop, List.length_map]
theorem RpA.cut {vs : List V} {ds : List D} (h : RpA K I M vs ds) (lo hi : Option Int) : RpA K I M (cutV vs lo hi) (cutL ds lo hi) := by
  unfold cutV cutL
  rw [← h.length]
  exact (h.drop _).take _
theorem RpA.rng (n : Int) : RpA K I M (rgV 0 n) (rangeD n) := by
  unfold rgV rangeD
  have e : (n - 0).toNat = n.toNat := by omega
  rw [e]
  generalize n.toNat = m
  have : ∀ l : List Nat, RpA K I M (l.map fun i => V.int (0 + (i : Nat))) (l.map fun i => D.int (i : Nat)) := by
    intro l
    induction l with
    | nil => exact .nil
    | cons a l ih =>
      simp only [List.map_cons]
      refine .cons ?_ ih
      rw [Int.zero_add]
      exact .int _
  exact this _
theorem sOk_one {z : Str} {c : Nat} (h : sOk z = true) (hc : c ∈ z.cps.toList) : sOk ⟨#[c]⟩ = true := by
  unfold sOk at h ⊢
  rw [← Array.all_toList] at h ⊢
  simp only [List.all_eq_true] at h ⊢
  intro x hx
  simp at hx
  subst hx
  exact h _ hc
theorem sOk_app {x y : Str} (h : sOk x = true) (h' : sOk y = true) : sOk (x ++ y) = true := by
  unfold sOk at *
  show ((x.cps ++ y.cps).all _) = true
  rw [Array.all_append, h, h']
  rfl
theorem sOk_sub {x : Str} {l : List Nat} (h : sOk x = true) (hl : ∀ c ∈ l, c ∈ x.cps.toList) : sOk ⟨l.toArray⟩ = true := by
  unfold sOk at *
  rw [← Array.all_toList] at h ⊢
  simp only [List.all_eq_true] at h ⊢
  intro c hc
  exact h c (hl c (by simpa using hc))
theorem keyOf_kV {d : D} {k : Key} {v : V} (h : keyOf d = some k) (r : Rp K I M v d) : v = kV k := by
  cases r <;> simp only [keyOf, Option.some.injEq, reduceCtorEq] at h
  · subst h; rfl
  · subst h; rfl
theorem keyOf_top {d : D} {k : Key} {v : V} (h : keyOf d = some k) (r : Tp K I M H v d) : v = kV k := by
  cases r <;> simp only [keyOf, Option.some.injEq, reduceCtorEq] at h
  · subst h; rfl
  · subst h; rfl
theorem keysOf_map : ∀ {ds : List D} {ks : List Key} {vs : List V}, keysOf ds = some ks → RpA K I M vs ds → vs = ks.map kV
  | [], _, _, h, r => by cases h; cases r; rfl
  | d :: ds, ks, _, h, r => by
    cases r with
    | cons a b =>
      simp only [keysOf] at h
      cases e : keyOf d with
      | none => rw [e] at h; cases h
      | some q =>
        rw [e] at h
        cases e2 : keysOf ds with
        | none => rw [e2] at h; cases h
        | some qs =>
          rw [e2] at h
          cases h
          rw [keyOf_kV e a, keysOf_map e2 b]
          rfl
theorem lookD_val {κ : Type} [DecidableEq κ] {k : κ} : ∀ {kvs : List (κ × V)} {ks : List κ} {ds : List D}, kvs.map (·.1) = ks → RpA K I M (kvs.map (·.2)) ds →
    (∀ d, lookD k ks ds = some d → ∃ v, valV kvs k = some v ∧ Rp K I M v d) ∧ (lookD k ks ds = none → valV kvs k = none)
  | [], _, _, hk, r => by
    cases hk
    cases r
    exact ⟨fun d h => by simp [lookD] at h, fun _ => valV_nil⟩
  | p :: kvs, _, _, hk, r => by
    cases hk
    cases r with
    | cons a b =>
      obtain ⟨i1, i2⟩ := lookD_val (k := k) rfl b
      simp only [List.map_cons, lookD]
      by_cases e : p.1 = k
      · rw [if_pos e, valV_pos e]
        exact ⟨fun d h => by cases h; exact ⟨_, rfl, a⟩, fun h => by cases h⟩
      · rw [if_neg e, valV_neg e]
        exact ⟨i1, i2⟩
/-- what a dict holds -/
theorem dGet_some {d k z : D} {x y : V} (h : dGet d k = some (some z)) (rx : Tp K I M H x d) (ry : Tp K I M H y k) : ∃ a v, x = .ref a ∧ DGet H a y (some v) ∧ Rp K I M v z := by
  cases rx <;> simp only [dGet, reduceCtorEq] at h
  · rename_i a kvs ks ds h1 h2 h3
    cases e : keyOf k with
    | none => rw [e] at h; cases h
    | some q =>
      rw [e] at h
      have h' : lookD q ks ds = some z := Option.some.inj h
      obtain ⟨v, e1, e2⟩ := (lookD_val h2.1 h3).1 z h'
      refine ⟨a, v, rfl, ?_, e2⟩
      rw [keyOf_top e ry, ← e1]
      exact .inl ⟨_, _, h1, rfl, rfl⟩
  · rename_i a kvs ks ds h1 h2 h3
    cases ry <;> simp only [dGet, reduceCtorEq] at h
    rename_i b xs es h4 h5 h6
    cases e : keysOf es with
    | none => rw [e] at h; cases h
    | some q =>
      rw [e] at h
      have h' : lookD q ks ds = some z := Option.some.inj h
      obtain ⟨v, e1, e2⟩ := (lookD_val h2.1 h3).1 z h'
      refine ⟨a, v, rfl, ?_, e2⟩
      rw [← e1]
      rw [keysOf_map e h6] at h5
      exact .inr ⟨_, _, _, h1, rfl, h5, rfl⟩
theorem dGet_none {d k : D} {x y : V} (h : dGet d k = some none) (rx : Tp K I M H x d) (ry : Tp K I M H y k) : ∃ a, x = .ref a ∧ DGet H a y none := by
  cases rx <;> simp only [dGet, reduceCtorEq] at h
  · rename_i a kvs ks ds h1 h2 h3
    cases e : keyOf k with
    | none => rw [e] at h; cases h
    | some q =>
      rw [e] at h
      have h' : lookD q ks ds = none := Option.some.inj h
      refine ⟨a, rfl, ?_⟩
      rw [keyOf_top e ry, ← (lookD_val h2.1 h3).2 h']
      exact .inl ⟨_, _, h1, rfl, rfl⟩
  · rename_i a kvs ks ds h1 h2 h3
    cases ry <;> simp only [dGet, reduceCtorEq] at h
    rename_i b xs es h4 h5 h6
    cases e : keysOf es with
    | none => rw [e] at h; cases h
    | some q =>
      rw [e] at h
      have h' : lookD q ks ds = none := Option.some.inj h
      refine ⟨a, rfl, ?_⟩
      rw [← (lookD_val h2.1 h3).2 h']
      rw [keysOf_map e h6] at h5
      exact .inr ⟨_, _, _, h1, rfl, h5, rfl⟩
end
/-! ### one operand -/
abbrev t1 (K : PySem.W.Frag) (B : Fm) (f : D → Option D) (tx : TE) : TE := tUn (r1 K B f) tx
def rL1 (f : V → Hp → VK → Prop) : List V → Hp → VK → Prop := fun xs H Q => match xs with
  | [v] => f v H Q
  | _ => False
theorem callr_l1 {X : Cx} {f : Value} {r : List V → Hp → VK → Prop} {r' : V → Hp → VK → Prop} (h : CallR X f r) (k : ∀ x H Q, r' x H Q → r [x] H Q) : CallR X f (rL1 r') := callr_imp h fun xs H Q q => by
  match xs, q with
  | [v], q => exact k v H Q q
/-- a reading that may be weakened -/
def mo (t : TE) : TE := fun σ H Q => ∃ Q', t σ H Q' ∧ ∀ v H, Q' v H → Q v H
theorem PE.mo {X : Cx} {e : Expr} {t : TE} (h : PE X e t) : PE X e (mo t) := ⟨fun pins s σ H Q I ⟨Q', a, b⟩ => thn (h.run pins s σ H Q' I a) fun u s' ⟨v, H', I', r, q⟩ => ⟨v, H', I', r, b v H' q⟩⟩
def tyName : Kd → String
  | .int => "int"
  | .bool => "bool"
  | .str => "str"
  | .tuple => "tuple"
  | .list => "list"
def isTyName (C : Cg) (k : Kd) : Expr → Bool
  | .Name f _ => decide (f = (tyName k : Str)) && glb C f
  | _ => false
def isTyNames (C : Cg) : List Kd → List Expr → Bool
  | [], [] => true
  | k :: ks, e :: es => isTyName C k e && ns e && isTyNames C ks es
  | _, _ => false
def call1 (C : Cg) (nm : Str) : Expr → Option Expr
  | .Call (.Name f _) [x] [] _ => if f = nm ∧ glb C nm = true ∧ ns x = true then some x else none
  | _ => none
def split1 (C : Cg) : O1 → Expr → Option Expr
  | .len, e => call1 C "len" e
  | .allB, e => call1 C "all" e
  | .anyB, e => call1 C "any" e
  | .tuple, e => call1 C "tuple" e
  | .tupRange, e => (call1 C "tuple" e).bind (call1 C "range")
  | .intB, e => call1 C "int" e
  | .strI, e => call1 C "str" e
  | .sum, e => call1 C "sum" e
  | .absI, e => call1 C "abs" e
  | .dictP, _ => none
  | .maxI, _ => none
  | .neg, .UnaryOp .USub x _ => some x
  | .isi k, .Call (.Name f _) [x, ty] [] _ => if f = ("isinstance" : Str) ∧ glb C "isinstance" = true ∧ ns x = true ∧ isTyName C k ty = true then some x else none
  | .isis ks, .Call (.Name f _) [x, .Tuple ts _ _] [] _ => if f = ("isinstance" : Str) ∧ ks.length ≤ 10 ∧ glb C "isinstance" = true ∧ ns x = true ∧ isTyNames C ks ts = true then some x else none
  | _, _ => none
theorem call1_eq {C : Cg} {nm : Str} {e x : Expr} (h : call1 C nm e = some x) : (∃ p pos, e = .Call (.Name nm p) [x] [] pos) ∧ glb C nm = true ∧ ns x = true := by
  unfold call1 at h
  split at h
  · rename_i f p y pos
    split at h
    · rename_i hh
      cases h
      obtain ⟨rfl, h1, h2⟩ := hh
      exact ⟨⟨p, pos, rfl⟩, h1, h2⟩
    · cases h
  · cases h
section
variable {C : Cg} {X : Cx} {B : Fm} {e x : Expr} {tx : TE}
theorem pe_b1 (c : Ctx C X) {nm : Str} {id : String} {r : V → Hp → VK → Prop} (h : call1 C nm e = some x) (hb : nm ∈ blts) (hv : bootBuiltins nm = some (.builtin id)) (hn : nm ≠ "__name__") (hd : (nm == ("__debug__" : Str)) = false)
    (hc : CallR X (.builtin id) (rL1 r)) (hx : PE X x tx) : PE X e (tUn r tx) := by
  obtain ⟨⟨p, pos, rfl⟩, hg, hs⟩ := call1_eq h
  exact pe_callB hc (c.gl hg) (c.blt _ hb) hv (pa_cons hx pa_nil (ns_star hs _ _)) hn hd (ns_star hs _ _) rfl
theorem pe_t1 (c : Ctx C X) {nm : Str} {id : String} {r : V → Hp → VK → Prop} (h : call1 C nm e = some x) (hb : nm ∈ blts) (hv : bootBuiltins nm = some (.type id)) (hn : nm ≠ "__name__") (hd : (nm == ("__debug__" : Str)) = false)
    (hc : CallR X (.type id) (rL1 r)) (hx : PE X x tx) : PE X e (tUn r tx) := by
  obtain ⟨⟨p, pos, rfl⟩, hg, hs⟩ := call1_eq h
  exact pe_callTy hc (c.gl hg) (c.blt _ hb) hv (pa_cons hx pa_nil (ns_star hs _ _)) hn hd (ns_star hs _ _) rfl
theorem isi_ty {K : PySem.W.Frag} {I : Hp} {M : List Addr} {H : Hp} {v : V} {d : D} {k : Kd} {b : Bool} (h : isKd k d = some b) (r : Tp K I M H v d) : ∃ t : Value, TyX K H v t ∧ PySem.W.kitOne K t (.type (tyName k)) = some b := by
  cases r with
  | loc => cases k <;> cases h
  | non => exact ⟨_, .base .non, by cases k <;> cases h <;> exact kit_ty (by decide +kernel)⟩
  | bl x => exact ⟨_, .base (.bl x), by cases k <;> cases h <;> exact kit_ty (by decide +kernel)⟩
  | int x => exact ⟨_, .base (.int x), by cases k <;> cases h <;> exact kit_ty (by decide +kernel)⟩
  | str x => exact ⟨_, .base (.str _), by cases k <;> cases h <;> exact kit_ty (by decide +kernel)⟩
  | tup _ x _ => exact ⟨_, .base (.tup x), by cases k <;> cases h <;> exact kit_ty (by decide +kernel)⟩
  | lst x _ => exact ⟨_, .base (.lst x), by cases k <;> cases h <;> exact kit_ty (by decide +kernel)⟩
  | dK x _ _ =>
    rcases x with x | ⟨o, x⟩
    · exact ⟨_, .base (.dK x), by cases k <;> cases h <;> exact kit_ty (by decide +kernel)⟩
    · exact ⟨_, .fDict x, by cases k <;> cases h <;> exact kit_ty (by decide +kernel)⟩
  | dT x _ _ => cases k <;> cases h
  | scr x =>
    rcases x with (x | ⟨o, x⟩) | ⟨o, its, n, h1, h2, _⟩
    · exact ⟨_, .base (.lst x), by cases k <;> cases h <;> exact kit_ty (by decide +kernel)⟩
    · exact ⟨_, .base (.frz x), by cases k <;> cases h <;> exact kit_ty (by decide +kernel)⟩
    · exact ⟨_, .kList h1 h2, by cases k <;> cases h <;> exact kit_ty (by decide +kernel)⟩
theorem isis_ty {K : PySem.W.Frag} {I : Hp} {M : List Addr} {H : Hp} {v : V} {d : D} {b : Bool} (r : Tp K I M H v d) (hl : ∀ n, d ≠ .loc n) (hl2 : ∀ a b, d ≠ .dT a b) : ∀ {ks : List Kd}, isKds d ks = some b → ∃ t : Value, TyX K H v t ∧ PySem.W.kitAny K t (ks.map fun k => .type (tyName k)) = some b := by
  have one : ∀ k, ∃ b, isKd k d = some b := fun k => by
    cases d <;> first | exact absurd rfl (hl _) | exact absurd rfl (hl2 _ _) | (cases k <;> exact ⟨_, rfl⟩)
  obtain ⟨t, ty, hk⟩ : ∃ t : Value, TyX K H v t ∧ ∀ k b, isKd k d = some b → PySem.W.kitOne K t (.type (tyName k)) = some b := by
    cases r with
    | loc => exact absurd rfl (hl _)
    | non => exact ⟨_, .base .non, fun k b h => by cases k <;> cases h <;> exact kit_ty (by decide +kernel)⟩
    | bl x => exact ⟨_, .base (.bl x), fun k b h => by cases k <;> cases h <;> exact kit_ty (by decide +kernel)⟩
    | int x => exact ⟨_, .base (.int x), fun k b h => by cases k <;> cases h <;> exact kit_ty (by decide +kernel)⟩
    | str x => exact ⟨_, .base (.str _), fun k b h => by cases k <;> cases h <;> exact kit_ty (by decide +kernel)⟩
    | tup _ x _ => exact ⟨_, .base (.tup x), fun k b h => by cases k <;> cases h <;> exact kit_ty (by decide +kernel)⟩
    | lst x _ => exact ⟨_, .base (.lst x), fun k b h => by cases k <;> cases h <;> exact kit_ty (by decide +kernel)⟩
    | dK x _ _ =>
      rcases x with x | ⟨o, x⟩
      · exact ⟨_, .base (.dK x), fun k b h => by cases k <;> cases h <;> exact kit_ty (by decide +kernel)⟩
      · exact ⟨_, .fDict x, fun k b h => by cases k <;> cases h <;> exact kit_ty (by decide +kernel)⟩
    | dT x _ _ => exact absurd rfl (hl2 _ _)
    | scr x =>
      rcases x with (x | ⟨o, x⟩) | ⟨o, its, n, h1, h2, _⟩
      · exact ⟨_, .base (.lst x), fun k b h => by cases k <;> cases h <;> exact kit_ty (by decide +kernel)⟩
      · exact ⟨_, .base (.frz x), fun k b h => by cases k <;> cases h <;> exact kit_ty (by decide +kernel)⟩
      · exact ⟨_, .kList h1 h2, fun k b h => by cases k <;> cases h <;> exact kit_ty (by decide +kernel)⟩
  intro ks h
  refine ⟨t, ty, ?_⟩
  induction ks with
  | nil => cases h; exact kitAny_nil
  | cons k ks ih =>
    obtain ⟨b1, e1⟩ := one k
    simp only [isKds, e1] at h
    cases b1 with
    | true => cases h; exact kitAny_cons (hk k _ e1) (fun z => by cases z) (fun _ => rfl)
    | false => exact kitAny_cons (hk k _ e1) (fun _ => ih h) (fun z => by cases z)
end
end Bp

namespace Bp
open PySem L2 PyProof.Rows
theorem n_tuple {K : PySem.W.Frag} {I : Hp} {M : List Addr} {H : Hp} {v : V} {ds : List D} (r : Tp K I M H v (.tup ds)) : ∃ a xs, v = .ref a ∧ I a = some (.tup xs) ∧ H a = some (.tup xs) ∧ RpA K I M xs ds := by
  cases r with
  | tup a b c => exact ⟨_, _, rfl, a, b, c⟩
theorem n_lst {K : PySem.W.Frag} {I : Hp} {M : List Addr} {H : Hp} {v : V} {ds : List D} (r : Tp K I M H v (.lst ds)) : ∃ a xs, v = .ref a ∧ H a = some (.lst xs) ∧ RpA K I M xs ds := by
  cases r with
  | lst b c => exact ⟨_, _, rfl, b, c⟩
theorem n_int {K : PySem.W.Frag} {I : Hp} {M : List Addr} {H : Hp} {v : V} {i : Int} (r : Tp K I M H v (.int i)) : v = .int i := by
  cases r; rfl
theorem n_bl {K : PySem.W.Frag} {I : Hp} {M : List Addr} {H : Hp} {v : V} {i : Bool} (r : Tp K I M H v (.bl i)) : v = .bl i := by
  cases r; rfl
theorem n_str {K : PySem.W.Frag} {I : Hp} {M : List Addr} {H : Hp} {v : V} {i : Str} (r : Tp K I M H v (.str i)) : v = .str i ∧ sOk i = true := by
  cases r with
  | str h => exact ⟨rfl, h⟩
theorem sOk_of (s : String) : sOk (s : Str) = true := by
  unfold sOk
  rw [Str.ofString_eq_toList, ← Array.all_toList]
  simp only [List.all_eq_true, decide_eq_true_eq]
  intro x hx
  simp only [List.mem_map] at hx
  obtain ⟨c, _, rfl⟩ := hx
  have h := c.valid
  show c.val.toNat < 1114112
  rcases h with h | h
  · exact Nat.lt_trans h (by decide)
  · exact h.2
theorem sOk_num (i : Int) : sOk (toString i : Str) = true := sOk_of _
theorem cr_lenR {X : Cx} : CallR X (.builtin "len") (fun xs H Q => ∃ a kvs, xs = [V.ref a] ∧ Rd H a (.dK kvs) ∧ Q (.int kvs.length) H) := by
  intro pins s σ H xs us Q I r h
  obtain ⟨a, kvs, rfl, ha, q⟩ := h
  obtain ⟨u, rfl, ru⟩ := vals1 r
  cases ru
  exact d_len I ha fun t s' I' => ⟨.int kvs.length, H, I', ⟨t, rfl⟩, q⟩
theorem cr_listR {X : Cx} (hc : X.calm = true) : CallR X (.type "list") (fun xs H Q => ∃ p kvs, xs = [.ref p] ∧ Rd H p (.dK kvs) ∧ ∀ q, H q = none → Q (.ref q) (upd H q (.lst (kvs.map fun kv => kV kv.1)))) := by
  rintro pins s σ H xs us Q I r ⟨p, kvs, rfl, hk, q⟩
  obtain ⟨u, rfl, rx⟩ := vals1 r
  cases rx
  obtain ⟨z, lo, vs, rk, hd⟩ := dk_rd I.hok hk
  obtain ⟨ep, hat⟩ := hd.dictAt
  have hl := Paired.length rk
  have kdl := PySem.W.kdl_dict (knd := mixKind X.prog X.w) (kvs := vs) (ep := ep) lo
  refine PySem.W.kdl_call kdl (I.ok.hd hc) hat (by omega) ?_
  intro h' tk acc' c' hkeep hS hacc
  have new : ObjOk X.prog X.w (upd H s.heap.objs.size (.lst (kvs.map fun kv => kV kv.1))) h' s.heap.objs.size (.lst (kvs.map fun kv => kV kv.1)) := by
    refine ⟨by rw [List.length_map]; exact z, acc'.toList, c', ?_, by rw [Array.toArray_toList]; exact hS⟩
    have el : acc'.toList.length = acc'.size := Array.length_toList
    refine vals_of_at (by rw [List.length_map, el, hacc.1, hl]) ?_
    intro j x w h1 h2
    rw [Array.getElem?_toList] at h2
    obtain ⟨k, y, hky, hi⟩ := hacc.2 j w h2
    have e1 : (kvs.map (·.1))[j]? = some k := by rw [KV.keys rk, List.getElem?_map, hky]; rfl
    have e2 : ((kvs.map (·.1)).map kV)[j]? = some (kV k) := by rw [List.getElem?_map, e1]; rfl
    rw [List.map_map] at e2
    have e3 : x = kV k := Option.some.inj (h1.symm.trans e2)
    subst e3
    exact keyIs_rel hi
  exact ⟨.ref s.heap.objs.size, _, I.laid hkeep (Nat.le_refl _) new, rfl, q _ I.fresh⟩
section
variable {C : Cg} {X : Cx} {B : Fm} {e x : Expr} {tx : TE}
theorem ss_len (c : Ctx C X) (h : call1 C "len" e = some x) (hx : PE X x tx) : PE X e (t1 X.K B (ev1 .len) tx) := by
  refine pe_b1 c h (by decide +kernel) PySem.boot_len (by decide +kernel) (by decide +kernel) (callr_l1 (CallR.or call_len cr_lenR) ?_) hx
  rintro x H Q ⟨I, M, S, d, z, R, rp, e, ok⟩
  have tp := R.top rp
  generalize res S d = d' at e tp
  cases tp with
  | str h =>
    simp only [ev1, lenD] at e
    split at e
    · rename_i hl
      cases e
      exact .inl ⟨_, _, rfl, ⟨hl, rfl⟩, ok.now R (.int _)⟩
    · cases e
  | tup _ a b => cases e; exact .inl ⟨_, _, rfl, .inr ⟨_, SqT.of a, rfl⟩, by rw [b.length]; exact ok.now R (.int _)⟩
  | lst a b => cases e; exact .inl ⟨_, _, rfl, .inl ⟨_, SqL.of a, rfl⟩, by rw [b.length]; exact ok.now R (.int _)⟩
  | scr a => cases e; exact .inl ⟨_, _, rfl, .inl ⟨_, a, rfl⟩, by rw [List.length_map]; exact ok.now R (.int _)⟩
  | dK a b _ =>
    cases e
    refine .inr ⟨_, _, rfl, a, ?_⟩
    have e2 := congrArg List.length b.1
    rw [List.length_map] at e2
    rw [e2]
    exact ok.now R (.int _)
  | non => cases e
  | bl _ => cases e
  | int _ => cases e
  | dT _ _ _ => cases e
  | loc => cases e
theorem ss_all (c : Ctx C X) (h : call1 C "all" e = some x) (hx : PE X x tx) : PE X e (t1 X.K B (ev1 .allB) tx) := by
  refine pe_b1 c h (by decide +kernel) boot_all (by decide +kernel) (by decide +kernel) (callr_l1 (cr_all c.calm) ?_) hx
  rintro x H Q ⟨I, M, S, d, z, R, rp, e, ok⟩
  have tp := R.top rp
  generalize res S d = d' at e tp
  cases d' <;> simp only [ev1, reduceCtorEq] at e
  rename_i xs
  obtain ⟨a, vs, rfl, hH, ra⟩ := n_lst tp
  cases e1 : dBools xs with
  | none => rw [e1] at e; cases e
  | some bs =>
    rw [e1] at e
    cases e
    rw [dBools_map e1] at ra
    rw [ra.bls] at hH
    exact ⟨a, bs, rfl, SqL.of hH, ok.now R (.bl _)⟩
theorem ss_any (c : Ctx C X) (h : call1 C "any" e = some x) (hx : PE X x tx) : PE X e (t1 X.K B (ev1 .anyB) tx) := by
  refine pe_b1 c h (by decide +kernel) boot_any (by decide +kernel) (by decide +kernel) (callr_l1 (cr_any c.calm) ?_) hx
  rintro x H Q ⟨I, M, S, d, z, R, rp, e, ok⟩
  have tp := R.top rp
  generalize res S d = d' at e tp
  cases d' <;> simp only [ev1, reduceCtorEq] at e
  rename_i xs
  obtain ⟨a, vs, rfl, hH, ra⟩ := n_lst tp
  cases e1 : dBools xs with
  | none => rw [e1] at e; cases e
  | some bs =>
    rw [e1] at e
    cases e
    rw [dBools_map e1] at ra
    rw [ra.bls] at hH
    exact ⟨a, bs, rfl, SqL.of hH, ok.now R (.bl _)⟩
theorem ss_sum (c : Ctx C X) (h : call1 C "sum" e = some x) (hx : PE X x tx) : PE X e (t1 X.K B (ev1 .sum) tx) := by
  refine pe_b1 c h (by decide +kernel) boot_sum (by decide +kernel) (by decide +kernel) (callr_l1 (cr_sum c.calm) ?_) hx
  rintro x H Q ⟨I, M, S, d, z, R, rp, e, ok⟩
  have tp := R.top rp
  generalize res S d = d' at e tp
  cases d' <;> simp only [ev1, reduceCtorEq] at e
  rename_i xs
  obtain ⟨a, vs, rfl, hH, ra⟩ := n_lst tp
  cases e1 : dInts xs with
  | none => rw [e1] at e; cases e
  | some bs =>
    rw [e1] at e
    cases e
    rw [dInts_map e1] at ra
    rw [ra.ints] at hH
    exact ⟨a, bs, rfl, SqL.of hH, ok.now R (.int _)⟩
theorem ss_abs (c : Ctx C X) (h : call1 C "abs" e = some x) (hx : PE X x tx) : PE X e (t1 X.K B (ev1 .absI) tx) := by
  refine pe_b1 c h (by decide +kernel) boot_abs (by decide +kernel) (by decide +kernel) (callr_l1 call_abs ?_) hx
  rintro x H Q ⟨I, M, S, d, z, R, rp, e, ok⟩
  have tp := R.top rp
  generalize res S d = d' at e tp
  cases d' <;> simp only [ev1, reduceCtorEq] at e
  cases e
  cases n_int tp
  exact ⟨_, rfl, ok.now R (.int _)⟩
theorem ss_int (c : Ctx C X) (h : call1 C "int" e = some x) (hx : PE X x tx) : PE X e (t1 X.K B (ev1 .intB) tx) := by
  refine pe_t1 c h (by decide +kernel) boot_int (by decide +kernel) (by decide +kernel) (callr_l1 call_int1 ?_) hx
  rintro x H Q ⟨I, M, S, d, z, R, rp, e, ok⟩
  have tp := R.top rp
  generalize res S d = d' at e tp
  cases d' <;> simp only [ev1, reduceCtorEq] at e
  · cases e
    cases n_bl tp
    exact .inr ⟨_, rfl, ok.now R (.int _)⟩
  · cases e
    cases n_int tp
    exact .inl ⟨_, rfl, ok.now R (.int _)⟩
theorem ss_tuple (c : Ctx C X) (h : call1 C "tuple" e = some x) (hx : PE X x tx) : PE X e (t1 X.K B (ev1 .tuple) tx) := by
  refine pe_t1 c h (by decide +kernel) boot_tuple (by decide +kernel) (by decide +kernel) (callr_l1 call_tuple_of ?_) hx
  rintro x H Q ⟨I, M, S, d, z, R, rp, e, ok⟩
  have tp := R.top rp
  generalize res S d = d' at e tp
  cases d' <;> simp only [ev1, reduceCtorEq] at e
  · cases e
    obtain ⟨a, vs, rfl, hI, hH, ra⟩ := n_tuple tp
    exact ⟨a, vs, rfl, .inr ⟨SqT.of hH, ok.now R (.tup hI ra)⟩⟩
  · cases e
    obtain ⟨a, vs, rfl, hH, ra⟩ := n_lst tp
    exact ⟨a, vs, rfl, .inl ⟨SqL.of hH, fun l hl => ok.newTup R ra hl⟩⟩
theorem ss_tupRange (c : Ctx C X) (h : (call1 C "tuple" e).bind (call1 C "range") = some x) (hx : PE X x tx) : PE X e (t1 X.K B (ev1 .tupRange) tx) := by
  cases e1 : call1 C "tuple" e with
  | none => rw [e1] at h; cases h
  | some y =>
    rw [e1] at h
    have h' : call1 C "range" y = some x := h
    obtain ⟨⟨p, pos, rfl⟩, hg, hs⟩ := call1_eq e1
    obtain ⟨⟨p2, pos2, rfl⟩, hg2, hs2⟩ := call1_eq h'
    have c1 := c.blt "tuple" (by decide +kernel)
    have c2 := c.blt "range" (by decide +kernel)
    refine PE.imp (pe_tupRg c.calm (c.gl hg) c1 (prg_1 (c.gl hg2) c2 (Bp.PE.mo hx) (ns_star hs2 _ _))) ?_
    intro σ H Q q
    refine ⟨_, q, ?_⟩
    rintro x H ⟨I, M, S, d, z, R, rp, e, ok⟩
    have tp := R.top rp
    generalize res S d = d' at e tp
    cases d' <;> simp only [ev1, reduceCtorEq] at e
    split at e
    · rename_i hn
      cases e
      cases n_int tp
      exact ⟨_, rfl, RgOk.of_le (Int.le_refl _) (by omega) (by omega) hn.1, fun q hq => ok.newTup R (RpA.rng _) hq⟩
    · cases e
theorem ss_str (c : Ctx C X) (h : call1 C "str" e = some x) (hx : PE X x tx) : PE X e (t1 X.K B (ev1 .strI) tx) := by
  refine pe_t1 c h (by decide +kernel) boot_str (by decide +kernel) (by decide +kernel) (callr_l1 call_str_int ?_) hx
  rintro x H Q ⟨I, M, S, d, z, R, rp, e, ok⟩
  have tp := R.top rp
  generalize res S d = d' at e tp
  cases d' <;> simp only [ev1, reduceCtorEq] at e
  split at e
  · rename_i hl
    cases e
    cases n_int tp
    exact ⟨_, rfl, hl, ok.now R (.str (sOk_num _))⟩
  · cases e
theorem ss_neg (c : Ctx C X) {pos : Pos} (hx : PE X x tx) : PE X (.UnaryOp .USub x pos) (t1 X.K B (ev1 .neg) tx) := by
  refine pe_un (fun pins s σ H y v Q I rv q => un_neg pins s σ H y v Q I rv ?_) hx
  obtain ⟨I, M, S, d, z, R, rp, e, ok⟩ := q
  have tp := R.top rp
  generalize res S d = d' at e tp
  cases d' <;> simp only [ev1, reduceCtorEq] at e
  cases e
  cases n_int tp
  exact ⟨_, rfl, ok.now R (.int _)⟩
theorem tyName_boot (k : Kd) : bootBuiltins (tyName k : Str) = some (.type (tyName k)) ∧ (tyName k : Str) ∈ blts ∧ (tyName k : Str) ≠ "__name__" ∧ ((tyName k : Str) == ("__debug__" : Str)) = false := by
  cases k <;> exact ⟨by decide +kernel, by decide +kernel, by decide +kernel, by decide +kernel⟩
theorem pe_ty (c : Ctx C X) {k : Kd} {ty : Expr} (h : isTyName C k ty = true) : PE X ty (tC (.ty (tyName k))) := by
  unfold isTyName at h
  split at h
  · simp only [Bool.and_eq_true, decide_eq_true_eq] at h
    obtain ⟨rfl, hg⟩ := h
    obtain ⟨b1, b2, b3, b4⟩ := tyName_boot k
    exact pe_bltn (c.gl hg) (c.blt _ b2) b1 rfl b3 b4
  · cases h
theorem ns_ty {k : Kd} {ty : Expr} (h : isTyName C k ty = true) : ns ty = true := by
  unfold isTyName at h
  split at h
  · rfl
  · cases h
theorem ss_isi (c : Ctx C X) {k : Kd} {ty : Expr} {p pos : Pos} (hg : glb C "isinstance" = true) (hs : ns x = true) (ht : isTyName C k ty = true) (hx : PE X x tx) : PE X (.Call (.Name "isinstance" p) [x, ty] [] pos) (t1 X.K B (ev1 (.isi k)) tx) := by
  have nt := ns_ty ht
  refine PE.imp (pe_callB call_isi (c.gl hg) (c.blt _ (by decide +kernel)) boot_isinstance (pa_cons (Bp.PE.mo hx) (pa_cons (pe_ty c ht) pa_nil (ns_star nt _ _)) (ns_star hs _ _)) (by decide +kernel) (by decide +kernel) (ns_star hs _ _) (by rw [ns_star nt]; rfl)) ?_
  intro σ H Q q
  refine ⟨_, q, ?_⟩
  rintro x H ⟨I, M, S, d, z, R, rp, e, ok⟩
  have tp := R.top rp
  generalize res S d = d' at e tp
  have e' : (isKd k d').map D.bl = some z := e
  cases e1 : isKd k d' with
  | none => rw [e1] at e'; cases e'
  | some b =>
    rw [e1] at e'
    cases e'
    obtain ⟨t, ty, kt⟩ := isi_ty e1 tp
    exact ⟨_, _, t, _, b, rfl, .ty _, ty, kt, ok.now R (.bl _)⟩
theorem pa_tys (c : Ctx C X) : ∀ {ks : List Kd} {ts : List Expr}, isTyNames C ks ts = true → PA X ts (fun _ H Q => Q (ks.map fun k => .ty (tyName k)) H)
  | [], [], _ => pa_nil
  | k :: ks, t :: ts, h => by
    simp only [isTyNames, Bool.and_eq_true] at h
    exact PA.imp (pa_cons (pe_ty c h.1.1) (pa_tys c h.2) (ns_star h.1.2 _ _)) fun σ H Q q => q
  | [], _ :: _, h => by cases h
  | _ :: _, [], h => by cases h
theorem cls_tys : ∀ ks : List Kd, Paired ClsV (ks.map fun k => V.ty (tyName k)) (ks.map fun k => Value.type (tyName k))
  | [] => .nil
  | k :: ks => .cons (.ty _) (cls_tys ks)
theorem ss_isis (c : Ctx C X) {ks : List Kd} {ts : List Expr} {p pos p2 : Pos} {k2 : Nat} (hl : ks.length ≤ 10) (hg : glb C "isinstance" = true) (hs : ns x = true) (ht : isTyNames C ks ts = true) (hx : PE X x tx) :
    PE X (.Call (.Name "isinstance" p) [x, .Tuple ts k2 p2] [] pos) (t1 X.K B (ev1 (.isis ks)) tx) := by
  refine PE.imp (pe_callB call_isiT (c.gl hg) (c.blt _ (by decide +kernel)) boot_isinstance (pa_cons (Bp.PE.mo hx) (pa_cons (pe_tup (pa_tys c ht)) pa_nil rfl) (ns_star hs _ _)) (by decide +kernel) (by decide +kernel) (ns_star hs _ _) rfl) ?_
  intro σ H Q q
  refine ⟨_, q, ?_⟩
  rintro x H ⟨I, M, S, d, z, R, rp, e, ok⟩
  have tp := R.top rp
  have hsz : (ks.map fun k => V.ty (tyName k)).length ≤ sizeLine := by rw [List.length_map]; exact Nat.le_trans hl (by decide)
  refine ⟨hsz, fun t ht => ?_⟩
  generalize hd : res S d = d' at e tp
  have e' : (isKds d' ks).map D.bl = some z := by
    cases d' <;> first | exact e | cases e
  cases e1 : isKds d' ks with
  | none => rw [e1] at e'; cases e'
  | some b =>
    rw [e1] at e'
    cases e'
    obtain ⟨R', le⟩ := R.new (o := .tup (ks.map fun k => V.ty (tyName k))) ht
    have tp' := R'.top (rp.mono le)
    rw [hd] at tp'
    have hn : (∀ n, d' ≠ .loc n) ∧ ∀ a b, d' ≠ .dT a b := by
      constructor
      · rintro n rfl
        cases e
      · rintro a b rfl
        cases e
    · obtain ⟨ty0, ty, kt⟩ := isis_ty tp' hn.1 hn.2 e1
      exact ⟨_, t, _, ty0, _, b, rfl, upd_same, cls_tys ks, ty, kt, (ok.mono le).now R' (.bl _)⟩
end
end Bp

namespace Bp
open PySem L2 PyProof.Rows
section
variable {C : Cg} {X : Cx} {B : Fm}
theorem b_add : OpR X (binaryOp .Add) (r2 X.K B (ev2 .add)) := by
  refine opr_imp (OpR.or op_add (OpR.or op_add_str (OpR.or op_cat op_catA))) ?_
  rintro x y H Q ⟨I, M, S, d, e, z, R, rx, ry, h, ok⟩
  have tx := R.top rx
  have ty := R.top ry
  generalize res S d = d' at h tx
  generalize res S e = e' at h ty
  have h : addD d' e' = some z := h
  cases d' <;> cases e' <;> simp only [addD, reduceCtorEq] at h
  · cases h
    cases n_int tx
    cases n_int ty
    exact .inl ⟨_, _, rfl, rfl, ok.now R (.int _)⟩
  · split at h
    · rename_i hl
      cases h
      obtain ⟨rfl, s1⟩ := n_str tx
      obtain ⟨rfl, s2⟩ := n_str ty
      exact .inr (.inl ⟨_, _, rfl, rfl, hl, ok.now R (.str (sOk_app s1 s2))⟩)
    · cases h
  · split at h
    · rename_i hl
      cases h
      obtain ⟨a, vs, rfl, ha, ha2, ra⟩ := n_tuple tx
      obtain ⟨b, us, rfl, hb, hb2, rb⟩ := n_tuple ty
      refine .inr (.inr (.inr ⟨a, b, vs, us, rfl, rfl, SqT.of ha2, SqT.of hb2, by rw [ra.length, rb.length]; exact hl, fun z => ?_, fun _ z => ?_, fun _ _ p hp => ?_⟩))
      · subst z
        cases ra
        exact ok.now R (.tup hb rb)
      · subst z
        cases rb
        rw [List.append_nil] at ok
        exact ok.now R (.tup ha ra)
      · exact ok.newTup R (ra.append rb) hp
    · cases h
  · split at h
    · rename_i hl
      cases h
      obtain ⟨a, vs, rfl, ha2, ra⟩ := n_lst tx
      obtain ⟨b, us, rfl, hb2, rb⟩ := n_lst ty
      exact .inr (.inr (.inl ⟨a, b, vs, us, rfl, rfl, ha2, hb2, by rw [ra.length, rb.length]; exact hl, fun p hp => ok.newLst R (ra.append rb) hp⟩))
    · cases h
theorem b_sub : OpR X (binaryOp .Sub) (r2 X.K B (ev2 .sub)) := by
  refine opr_imp op_sub ?_
  rintro x y H Q ⟨I, M, S, d, e, z, R, rx, ry, h, ok⟩
  have tx := R.top rx
  have ty := R.top ry
  generalize res S d = d' at h tx
  generalize res S e = e' at h ty
  cases d' <;> cases e' <;> simp only [ev2, reduceCtorEq] at h
  cases h
  cases n_int tx
  cases n_int ty
  exact ⟨_, _, rfl, rfl, ok.now R (.int _)⟩
theorem b_mul : OpR X (binaryOp .Mult) (r2 X.K B (ev2 .mul)) := by
  refine opr_imp (OpR.or op_mul (OpR.or op_rep op_repT)) ?_
  rintro x y H Q ⟨I, M, S, d, e, z, R, rx, ry, h, ok⟩
  have tx := R.top rx
  have ty := R.top ry
  generalize res S d = d' at h tx
  generalize res S e = e' at h ty
  have h : mulD d' e' = some z := h
  cases d' <;> cases e' <;> simp only [mulD, reduceCtorEq] at h
  · split at h
    · rename_i hl
      cases h
      cases n_int tx
      cases n_int ty
      refine .inl ⟨_, _, rfl, rfl, ?_, ok.now R (.int _)⟩
      have hm := mulOk_ok hl
      simpa [CMul] using hm
    · cases h
  · split at h
    · rename_i hl
      cases h
      obtain ⟨a, vs, rfl, ha, ha2, ra⟩ := n_tuple tx
      cases n_int ty
      refine .inr (.inr ⟨a, _, vs, rfl, rfl, SqT.of ha2, ?_, hl.1, hl.2.1, by rw [ra.length]; exact hl.2.2.2, fun p hp => ok.newTup R (ra.rep _) hp⟩)
      intro z
      subst z
      cases ra
      exact absurd hl.2.2.1 (by simp)
    · cases h
  · split at h
    · rename_i hl
      cases h
      obtain ⟨a, vs, rfl, ha2, ra⟩ := n_lst tx
      cases n_int ty
      exact .inr (.inl ⟨a, _, vs, rfl, rfl, ha2, hl.1, hl.2.1, by rw [ra.length]; exact hl.2.2, fun p hp => ok.newLst R (ra.rep _) hp⟩)
    · cases h
theorem b_fdiv : OpR X (binaryOp .FloorDiv) (r2 X.K B (ev2 .fdiv)) := by
  refine opr_imp op_fdiv ?_
  rintro x y H Q ⟨I, M, S, d, e, z, R, rx, ry, h, ok⟩
  have tx := R.top rx
  have ty := R.top ry
  generalize res S d = d' at h tx
  generalize res S e = e' at h ty
  cases d' <;> cases e' <;> simp only [ev2, reduceCtorEq] at h
  split at h
  · rename_i hl
    cases h
    cases n_int tx
    cases n_int ty
    exact ⟨_, _, rfl, rfl, hl, ok.now R (.int _)⟩
  · cases h
theorem b_mod : OpR X (binaryOp .Mod) (r2 X.K B (ev2 .mod)) := by
  refine opr_imp op_mod ?_
  rintro x y H Q ⟨I, M, S, d, e, z, R, rx, ry, h, ok⟩
  have tx := R.top rx
  have ty := R.top ry
  generalize res S d = d' at h tx
  generalize res S e = e' at h ty
  cases d' <;> cases e' <;> simp only [ev2, reduceCtorEq] at h
  split at h
  · rename_i hl
    cases h
    cases n_int tx
    cases n_int ty
    exact ⟨_, _, rfl, rfl, hl, ok.now R (.int _)⟩
  · cases h
theorem eqB_some {a b : D} {r : Bool} (h : eqB a b = some r) : cmpN dep a = true ∧ cmpN dep b = true ∧ r = eqD a b := by
  unfold eqB at h
  split at h
  · rename_i hh
    cases h
    simp only [Bool.and_eq_true] at hh
    exact ⟨hh.1, hh.2, rfl⟩
  · cases h
theorem c_eq (c : Ctx C X) : OpR X (compareOp .Eq) (r2 X.K B (ev2 .eq)) := by
  refine opr_imp (op_eqD c.room.units) ?_
  rintro x y H Q ⟨I, M, S, d, e, z, R, rx, ry, h, ok⟩
  have tx := R.top rx
  have ty := R.top ry
  generalize res S d = d' at h tx
  generalize res S e = e' at h ty
  have h : (eqB d' e').map D.bl = some z := h
  cases e1 : eqB d' e' with
  | none => rw [e1] at h; cases h
  | some r =>
    rw [e1] at h
    cases h
    obtain ⟨c1, c2, rfl⟩ := eqB_some e1
    obtain ⟨p1, q1⟩ := cmp_top R.pl c1 tx
    obtain ⟨p2, q2⟩ := cmp_top R.pl c2 ty
    exact ⟨_, _, p1, p2, q1, q2, ok.now R (.bl _)⟩
theorem c_ne (c : Ctx C X) : OpR X (compareOp .NotEq) (r2 X.K B (ev2 .ne)) := by
  refine opr_imp (op_neD c.room.units) ?_
  rintro x y H Q ⟨I, M, S, d, e, z, R, rx, ry, h, ok⟩
  have tx := R.top rx
  have ty := R.top ry
  generalize res S d = d' at h tx
  generalize res S e = e' at h ty
  have h : (eqB d' e').map (fun r => D.bl (!r)) = some z := h
  cases e1 : eqB d' e' with
  | none => rw [e1] at h; cases h
  | some r =>
    rw [e1] at h
    cases h
    obtain ⟨c1, c2, rfl⟩ := eqB_some e1
    obtain ⟨p1, q1⟩ := cmp_top R.pl c1 tx
    obtain ⟨p2, q2⟩ := cmp_top R.pl c2 ty
    exact ⟨_, _, p1, p2, q1, q2, ok.now R (.bl _)⟩
theorem c_lt : OpR X (compareOp .Lt) (r2 X.K B (ev2 .lt)) := by
  refine opr_imp (OpR.or op_lt op_lt_str) ?_
  rintro x y H Q ⟨I, M, S, d, e, z, R, rx, ry, h, ok⟩
  have tx := R.top rx
  have ty := R.top ry
  generalize res S d = d' at h tx
  generalize res S e = e' at h ty
  cases d' <;> cases e' <;> simp only [ev2, ordI, reduceCtorEq] at h
  · cases h
    cases n_int tx
    cases n_int ty
    exact .inl ⟨_, _, rfl, rfl, ok.now R (.bl _)⟩
  · cases h
    obtain ⟨rfl, s1⟩ := n_str tx
    obtain ⟨rfl, s2⟩ := n_str ty
    exact .inr ⟨_, _, rfl, rfl, ok.now R (.bl _)⟩
theorem c_le : OpR X (compareOp .LtE) (r2 X.K B (ev2 .le)) := by
  refine opr_imp (OpR.or op_le op_le_str) ?_
  rintro x y H Q ⟨I, M, S, d, e, z, R, rx, ry, h, ok⟩
  have tx := R.top rx
  have ty := R.top ry
  generalize res S d = d' at h tx
  generalize res S e = e' at h ty
  cases d' <;> cases e' <;> simp only [ev2, ordI, reduceCtorEq] at h
  · cases h
    cases n_int tx
    cases n_int ty
    exact .inl ⟨_, _, rfl, rfl, ok.now R (.bl _)⟩
  · cases h
    obtain ⟨rfl, s1⟩ := n_str tx
    obtain ⟨rfl, s2⟩ := n_str ty
    exact .inr ⟨_, _, rfl, rfl, ok.now R (.bl _)⟩
theorem c_gt : OpR X (compareOp .Gt) (r2 X.K B (ev2 .gt)) := by
  refine opr_imp op_gt ?_
  rintro x y H Q ⟨I, M, S, d, e, z, R, rx, ry, h, ok⟩
  have tx := R.top rx
  have ty := R.top ry
  generalize res S d = d' at h tx
  generalize res S e = e' at h ty
  cases d' <;> cases e' <;> simp only [ev2, ordI, reduceCtorEq] at h
  cases h
  cases n_int tx
  cases n_int ty
  exact ⟨_, _, rfl, rfl, ok.now R (.bl _)⟩
theorem c_ge : OpR X (compareOp .GtE) (r2 X.K B (ev2 .ge)) := by
  refine opr_imp op_ge ?_
  rintro x y H Q ⟨I, M, S, d, e, z, R, rx, ry, h, ok⟩
  have tx := R.top rx
  have ty := R.top ry
  generalize res S d = d' at h tx
  generalize res S e = e' at h ty
  cases d' <;> cases e' <;> simp only [ev2, ordI, reduceCtorEq] at h
  cases h
  cases n_int tx
  cases n_int ty
  exact ⟨_, _, rfl, rfl, ok.now R (.bl _)⟩
theorem c_inS : OpR X (compareOp .In) (r2 X.K B (ev2 .inS)) := by
  refine opr_imp op_in_str ?_
  rintro x y H Q ⟨I, M, S, d, e, z, R, rx, ry, h, ok⟩
  have tx := R.top rx
  have ty := R.top ry
  generalize res S d = d' at h tx
  generalize res S e = e' at h ty
  cases d' <;> cases e' <;> simp only [ev2, reduceCtorEq] at h
  cases h
  obtain ⟨rfl, s1⟩ := n_str tx
  obtain ⟨rfl, s2⟩ := n_str ty
  exact ⟨_, _, rfl, rfl, ok.now R (.bl _)⟩
theorem c_ninS : OpR X (compareOp .NotIn) (r2 X.K B (ev2 .ninS)) := by
  refine opr_imp op_notin_str ?_
  rintro x y H Q ⟨I, M, S, d, e, z, R, rx, ry, h, ok⟩
  have tx := R.top rx
  have ty := R.top ry
  generalize res S d = d' at h tx
  generalize res S e = e' at h ty
  cases d' <;> cases e' <;> simp only [ev2, reduceCtorEq] at h
  cases h
  obtain ⟨rfl, s1⟩ := n_str tx
  obtain ⟨rfl, s2⟩ := n_str ty
  exact ⟨_, _, rfl, rfl, ok.now R (.bl _)⟩
theorem pys_any (x : D) : ∀ ys : List D, ((D.pys ys).any fun z => PyData.eqv z x.py) = ys.any fun y => eqD y x
  | [] => rfl
  | y :: ys => by
    show (PyData.eqv y.py x.py || _) = _
    rw [pys_any x ys]
    rfl
theorem inSeq_some {x : D} {ys : List D} {r : Bool} (h : inSeq x ys = some r) : cmpN dep x = true ∧ cmpN dep (.lst ys) = true ∧ r = ys.any fun y => eqD y x := by
  unfold inSeq at h
  split at h
  · rename_i hh
    cases h
    simp only [Bool.and_eq_true] at hh
    exact ⟨hh.1, hh.2, rfl⟩
  · cases h
theorem c_inL (c : Ctx C X) : OpR X (compareOp .In) (r2 X.K B (ev2 .inL)) := by
  refine opr_imp (op_inD (by have := c.room.un; omega)) ?_
  rintro x y H Q ⟨I, M, S, d, e, z, R, rx, ry, h, ok⟩
  have tx := R.top rx
  have ty := R.top ry
  generalize res S d = d' at h tx
  generalize res S e = e' at h ty
  cases e' <;> simp only [ev2, reduceCtorEq] at h
  rename_i ys
  cases e1 : inSeq d' ys with
  | none => rw [e1] at h; cases h
  | some r =>
    rw [e1] at h
    cases h
    obtain ⟨c1, c2, rfl⟩ := inSeq_some e1
    obtain ⟨p1, q1⟩ := cmp_top R.pl c1 tx
    obtain ⟨p2, q2⟩ := cmp_top R.pl c2 ty
    exact ⟨_, _, p1, p2, q1, q2, by rw [pys_any]; exact ok.now R (.bl _)⟩
theorem c_ninL (c : Ctx C X) : OpR X (compareOp .NotIn) (r2 X.K B (ev2 .ninL)) := by
  refine opr_imp (op_notInD (by have := c.room.un; omega)) ?_
  rintro x y H Q ⟨I, M, S, d, e, z, R, rx, ry, h, ok⟩
  have tx := R.top rx
  have ty := R.top ry
  generalize res S d = d' at h tx
  generalize res S e = e' at h ty
  cases e' <;> simp only [ev2, reduceCtorEq] at h
  rename_i ys
  cases e1 : inSeq d' ys with
  | none => rw [e1] at h; cases h
  | some r =>
    rw [e1] at h
    cases h
    obtain ⟨c1, c2, rfl⟩ := inSeq_some e1
    obtain ⟨p1, q1⟩ := cmp_top R.pl c1 tx
    obtain ⟨p2, q2⟩ := cmp_top R.pl c2 ty
    exact ⟨_, _, p1, p2, q1, q2, by rw [pys_any]; exact ok.now R (.bl _)⟩
def rDIn (neg : Bool) : R2 := fun y x H Q => ∃ a o, x = .ref a ∧ DGet H a y o ∧ Q (.bl (if neg then !o.isSome else o.isSome)) H
theorem op_dIn (hu : X.A.units + 1 < cLine) : OpR X (compareOp .In) (rDIn false) := by
  intro pins s σ H x y v u Q I rx ry h
  obtain ⟨a, o, rfl, g, q⟩ := h
  obtain rfl : u = Value.ref a := ry
  exact d_in hu I g rx fun s' I' => ⟨.bl _, H, I', rfl, q⟩
theorem op_dNotIn (hu : X.A.units + 1 < cLine) : OpR X (compareOp .NotIn) (rDIn true) := by
  intro pins s σ H x y v u Q I rx ry h
  obtain ⟨a, o, rfl, g, q⟩ := h
  obtain rfl : u = Value.ref a := ry
  exact d_notIn hu I g rx fun s' I' => ⟨.bl _, H, I', rfl, q⟩
theorem c_inD (c : Ctx C X) : OpR X (compareOp .In) (r2 X.K B (ev2 .inD)) := by
  refine opr_imp (op_dIn (hu_of c.room)) ?_
  rintro x y H Q ⟨I, M, S, d, e, z, R, rx, ry, h, ok⟩
  have tx := R.top rx
  have ty := R.top ry
  generalize res S d = d' at h tx
  generalize res S e = e' at h ty
  have h : (dGet e' d').map (fun o => D.bl o.isSome) = some z := h
  cases e1 : dGet e' d' with
  | none => rw [e1] at h; cases h
  | some o =>
    rw [e1] at h
    cases h
    cases o with
    | none => obtain ⟨a, rfl, g⟩ := dGet_none e1 ty tx; exact ⟨a, _, rfl, g, ok.now R (.bl _)⟩
    | some w => obtain ⟨a, v, rfl, g, _⟩ := dGet_some e1 ty tx; exact ⟨a, _, rfl, g, ok.now R (.bl _)⟩
theorem c_ninD (c : Ctx C X) : OpR X (compareOp .NotIn) (r2 X.K B (ev2 .ninD)) := by
  refine opr_imp (op_dNotIn (hu_of c.room)) ?_
  rintro x y H Q ⟨I, M, S, d, e, z, R, rx, ry, h, ok⟩
  have tx := R.top rx
  have ty := R.top ry
  generalize res S d = d' at h tx
  generalize res S e = e' at h ty
  have h : (dGet e' d').map (fun o => D.bl o.isNone) = some z := h
  cases e1 : dGet e' d' with
  | none => rw [e1] at h; cases h
  | some o =>
    rw [e1] at h
    cases h
    cases o with
    | none => obtain ⟨a, rfl, g⟩ := dGet_none e1 ty tx; exact ⟨a, _, rfl, g, ok.now R (.bl _)⟩
    | some w => obtain ⟨a, v, rfl, g, _⟩ := dGet_some e1 ty tx; exact ⟨a, _, rfl, g, ok.now R (.bl _)⟩
theorem non_top {K : PySem.W.Frag} {I : Hp} {M : List Addr} {H : Hp} {v : V} {d : D} (r : Tp K I M H v d) (hl : ∀ n, d ≠ .loc n) : decide (v = .non) = d.isNon := by
  cases r <;> first | rfl | exact absurd rfl (hl _)
theorem c_isN : OpR X (compareOp .Is) (r2 X.K B (ev2 .isN)) := by
  refine opr_imp op_isN ?_
  rintro x y H Q ⟨I, M, S, d, e, z, R, rx, ry, h, ok⟩
  have tx := R.top rx
  have ty := R.top ry
  generalize res S d = d' at h tx
  generalize res S e = e' at h ty
  have hl : ∀ n, d' ≠ .loc n := fun n q => by subst q; cases h
  have e2 := non_top tx hl
  cases ty <;> first | (exfalso; cases tx <;> cases h; done) | skip
  refine ⟨rfl, ?_⟩
  rw [e2]
  cases tx <;> first | exact absurd rfl (hl _) | (cases h; exact ok.now R (.bl _))
theorem c_nisN : OpR X (compareOp .IsNot) (r2 X.K B (ev2 .nisN)) := by
  refine opr_imp op_notN ?_
  rintro x y H Q ⟨I, M, S, d, e, z, R, rx, ry, h, ok⟩
  have tx := R.top rx
  have ty := R.top ry
  generalize res S d = d' at h tx
  generalize res S e = e' at h ty
  have hl : ∀ n, d' ≠ .loc n := fun n q => by subst q; cases h
  have e2 := non_top tx hl
  cases ty <;> first | (exfalso; cases tx <;> cases h; done) | skip
  refine ⟨rfl, ?_⟩
  rw [e2]
  cases tx <;> first | exact absurd rfl (hl _) | (cases h; exact ok.now R (.bl _))
theorem c_isB : OpR X (compareOp .Is) (r2 X.K B (ev2 .isB)) := by
  refine opr_imp op_isBl ?_
  rintro x y H Q ⟨I, M, S, d, e, z, R, rx, ry, h, ok⟩
  have tx := R.top rx
  have ty := R.top ry
  generalize res S d = d' at h tx
  generalize res S e = e' at h ty
  cases d' <;> cases e' <;> simp only [ev2, reduceCtorEq] at h
  cases h
  cases n_bl tx
  cases n_bl ty
  refine ⟨_, _, rfl, rfl, ?_⟩
  rw [← Bool.beq_eq_decide_eq]
  exact ok.now R (.bl _)
theorem c_nisB : OpR X (compareOp .IsNot) (r2 X.K B (ev2 .nisB)) := by
  refine opr_imp op_notBl ?_
  rintro x y H Q ⟨I, M, S, d, e, z, R, rx, ry, h, ok⟩
  have tx := R.top rx
  have ty := R.top ry
  generalize res S d = d' at h tx
  generalize res S e = e' at h ty
  cases d' <;> cases e' <;> simp only [ev2, reduceCtorEq] at h
  cases h
  cases n_bl tx
  cases n_bl ty
  refine ⟨_, _, rfl, rfl, ?_⟩
  rw [← Bool.beq_eq_decide_eq]
  exact ok.now R (.bl _)
def rDIx : R2 := fun x y H Q => ∃ a v, x = .ref a ∧ DGet H a y (some v) ∧ Q v H
theorem ix_dict (hu : X.A.units + 1 < cLine) : IxR X rDIx := by
  intro value slice pins s σ H x y v u Q I rx ry h hs
  obtain ⟨a, z, rfl, g, q⟩ := h
  obtain rfl : v = Value.ref a := rx
  exact tail_any (dict_typeIs I g) PySem.F.slot_dict_getitem.lookup (d_getItem hu I g ry fun w' s' I' rw' => ⟨z, H, I', rw', q⟩) hs
theorem ixr_imp {r r' : R2} (h : IxR X r) (k : ∀ x y H Q, r' x y H Q → r x y H Q) : IxR X r' := fun value slice pins s σ H x y v u Q I rx ry q hs => h value slice pins s σ H x y v u Q I rx ry (k _ _ _ _ q) hs
theorem atI_rp {K : PySem.W.Frag} {I : Hp} {M : List Addr} {vs : List V} {ds : List D} {i : Int} {d : D} (r : RpA K I M vs ds) (h : atI ds i = some d) : ∃ v, atI vs i = some v ∧ Rp K I M v d := by
  unfold atI at h ⊢
  rw [r.length]
  cases e : ixN ds.length i with
  | none => rw [e] at h; cases h
  | some j =>
    rw [e] at h
    exact r.get h
theorem b_idx (c : Ctx C X) : IxR X (r2 X.K B (ev2 .idx)) := by
  refine ixr_imp (IxR.or ix_seq (ix_dict (hu_of c.room))) ?_
  rintro x y H Q ⟨I, M, S, d, e, z, R, rx, ry, h, ok⟩
  have tx := R.top rx
  have ty := R.top ry
  generalize res S d = d' at h tx
  generalize res S e = e' at h ty
  have h : idxD d' e' = some z := h
  have dict : (dGet d' e').bind id = some z → rDIx x y H Q := fun h => by
    cases e1 : dGet d' e' with
    | none => rw [e1] at h; cases h
    | some o =>
      rw [e1] at h
      have h' : o = some z := h
      subst h'
      obtain ⟨a, v, rfl, g, rp⟩ := dGet_some e1 tx ty
      exact ⟨a, v, rfl, g, ok.now R rp⟩
  cases d' with
  | lst xs =>
    cases e' <;> simp only [idxD, dGet, Option.bind, reduceCtorEq] at h
    obtain ⟨a, vs, rfl, ha, ra⟩ := n_lst tx
    cases n_int ty
    obtain ⟨v, h1, h2⟩ := atI_rp ra h
    exact .inl (.inl ⟨a, vs, _, v, rfl, rfl, SqL.of ha, h1, ok.now R h2⟩)
  | tup xs =>
    cases e' <;> simp only [idxD, dGet, Option.bind, reduceCtorEq] at h
    obtain ⟨a, vs, rfl, ha, ha2, ra⟩ := n_tuple tx
    cases n_int ty
    obtain ⟨v, h1, h2⟩ := atI_rp ra h
    exact .inl (.inr (.inl ⟨a, vs, _, v, rfl, rfl, SqT.of ha2, h1, ok.now R h2⟩))
  | scr nsx =>
    cases e' <;> simp only [idxD, dGet, Option.bind, reduceCtorEq] at h
    cases tx with
    | scr hq =>
      cases n_int ty
      rename_i i _ a
      cases e1 : atI nsx i with
      | none => rw [e1] at h; cases h
      | some k =>
        rw [e1] at h
        cases h
        refine .inl (.inl ⟨a, _, _, .int k, rfl, rfl, hq, ?_, ok.now R (.int _)⟩)
        unfold atI at e1 ⊢
        rw [List.length_map]
        cases e2 : ixN nsx.length i with
        | none => rw [e2] at e1; cases e1
        | some j =>
          rw [e2] at e1
          show (nsx.map V.int)[j]? = some (.int k)
          rw [List.getElem?_map, show nsx[j]? = some k from e1]
          rfl
  | str s =>
    cases e' <;> simp only [idxD, dGet, Option.bind, reduceCtorEq] at h
    rename_i i _
    split at h
    · rename_i hl
      obtain ⟨rfl, s1⟩ := n_str tx
      cases n_int ty
      cases e1 : atI s.cps.toList i with
      | none => rw [e1] at h; cases h
      | some k =>
        rw [e1] at h
        cases h
        refine .inl (.inr (.inr ⟨s, i, k, rfl, rfl, hl, e1, ok.now R (.str (sOk_one s1 ?_))⟩))
        obtain ⟨j, _, h2, _⟩ := atI_get e1
        exact List.mem_iff_getElem?.mpr ⟨j, h2⟩
    · cases h
  | dK ks vs => exact .inr (dict (by cases e' <;> exact h))
  | dT ks vs => exact .inr (dict (by cases e' <;> exact h))
  | non => cases e' <;> cases h
  | bl b => cases e' <;> cases h
  | int i => cases e' <;> cases h
  | loc n => cases e' <;> cases h
end
end Bp

namespace Bp
open PySem L2 PyProof.Rows
theorem perm_insSort (x : Int) : ∀ ys : List Int, (insSort x ys).Perm (x :: ys)
  | [] => .refl _
  | y :: ys => by
    unfold insSort
    split
    · exact .refl _
    · exact .trans (.cons y (perm_insSort x ys)) (.swap x y ys)
theorem perm_sortI : ∀ xs : List Int, (sortI xs).Perm xs
  | [] => .refl _
  | x :: xs => (perm_insSort x (sortI xs)).trans (.cons x (perm_sortI xs))
theorem sorted_insSort (x : Int) : ∀ ys : List Int, ys.Pairwise (· ≤ ·) → (insSort x ys).Pairwise (· ≤ ·)
  | [], _ => by simp [insSort]
  | y :: ys, h => by
    rw [List.pairwise_cons] at h
    unfold insSort
    split
    · rename_i hx
      rw [List.pairwise_cons, List.pairwise_cons]
      refine ⟨fun z hz => ?_, h⟩
      rcases List.mem_cons.mp hz with rfl | hz
      · exact hx
      · exact Int.le_trans hx (h.1 z hz)
    · rename_i hx
      rw [List.pairwise_cons]
      refine ⟨fun z hz => ?_, sorted_insSort x ys h.2⟩
      rcases List.mem_cons.mp ((perm_insSort x ys).mem_iff.mp hz) with rfl | hz
      · omega
      · exact h.1 z hz
theorem sorted_sortI : ∀ xs : List Int, (sortI xs).Pairwise (· ≤ ·)
  | [] => .nil
  | x :: xs => sorted_insSort x _ (sorted_sortI xs)
theorem mem_insSet (x z : Int) : ∀ ys : List Int, z ∈ insSet x ys ↔ z = x ∨ z ∈ ys
  | [] => by simp [insSet]
  | y :: ys => by
    unfold insSet
    split
    · simp
    · split
      · rename_i h; subst h; simp
      · rw [List.mem_cons, mem_insSet x z ys, List.mem_cons]
        constructor
        · rintro (h | h | h)
          · exact .inr (.inl h)
          · exact .inl h
          · exact .inr (.inr h)
        · rintro (h | h | h)
          · exact .inr (.inl h)
          · exact .inl h
          · exact .inr (.inr h)
theorem mem_setI (z : Int) : ∀ xs : List Int, z ∈ setI xs ↔ z ∈ xs
  | [] => by simp [setI]
  | x :: xs => by
    show z ∈ insSet x (setI xs) ↔ _
    rw [mem_insSet, mem_setI z xs, List.mem_cons]
theorem sorted_insSet (x : Int) : ∀ ys : List Int, ys.Pairwise (· < ·) → (insSet x ys).Pairwise (· < ·)
  | [], _ => by simp [insSet]
  | y :: ys, h => by
    have h' := h
    rw [List.pairwise_cons] at h
    unfold insSet
    split
    · rename_i hx
      rw [List.pairwise_cons]
      refine ⟨fun z hz => ?_, h'⟩
      rcases List.mem_cons.mp hz with rfl | hz
      · exact hx
      · exact Int.lt_trans hx (h.1 z hz)
    · split
      · exact h'
      · rename_i hx hy
        rw [List.pairwise_cons]
        refine ⟨fun z hz => ?_, sorted_insSet x ys h.2⟩
        rcases (mem_insSet x z ys).mp hz with rfl | hz
        · omega
        · exact h.1 z hz
theorem sorted_setI : ∀ xs : List Int, (setI xs).Pairwise (· < ·)
  | [] => .nil
  | x :: xs => sorted_insSet x _ (sorted_setI xs)
theorem rise_same : ∀ {a b : List Int}, a.Pairwise (· < ·) → b.Pairwise (· < ·) → (∀ k, k ∈ a ↔ k ∈ b) → a = b
  | [], [], _, _, _ => rfl
  | [], y :: ys, _, _, h => by have := (h y).mpr (by simp); simp at this
  | x :: xs, [], _, _, h => by have := (h x).mp (by simp); simp at this
  | x :: xs, y :: ys, ha, hb, h => by
    rw [List.pairwise_cons] at ha hb
    have e : x = y := by
      have h1 := (h x).mp (by simp)
      have h2 := (h y).mpr (by simp)
      rcases List.mem_cons.mp h1 with e | h1
      · exact e
      · rcases List.mem_cons.mp h2 with e | h2
        · exact e.symm
        · have := ha.1 y h2
          have := hb.1 x h1
          omega
    subst e
    rw [rise_same ha.2 hb.2 fun k => ?_]
    constructor
    · intro hk
      rcases List.mem_cons.mp ((h k).mp (List.mem_cons_of_mem _ hk)) with e | hk'
      · have := ha.1 k hk
        omega
      · exact hk'
    · intro hk
      rcases List.mem_cons.mp ((h k).mpr (List.mem_cons_of_mem _ hk)) with e | hk'
      · have := hb.1 k hk
        omega
      · exact hk'
def splitX1 (C : Cg) : X1 → Expr → Option Expr
  | .list, e => call1 C "list" e
  | .listRange, e => (call1 C "list" e).bind (call1 C "range")
  | .sortedI, e => call1 C "sorted" e
  | .sortedSetI, e => (call1 C "sorted" e).bind (call1 C "set")
section
variable {C : Cg} {X : Cx} {B : Fm} {e x : Expr} {tx : TE}
theorem rpA_keys {K : PySem.W.Frag} {I : Hp} {M : List Addr} : ∀ {kvs : List (Key × V)} {ds : List D}, RpA K I M (kvs.map (·.2)) ds → ((kvs.map (·.1)).all kOk = true) → RpA K I M (kvs.map fun kv => kV kv.1) ((kvs.map (·.1)).map keyD)
  | [], _, _, _ => .nil
  | p :: kvs, _, h, hs => by
    cases h with
    | cons a b =>
      simp only [List.map_cons, List.all_cons, Bool.and_eq_true] at hs ⊢
      refine .cons ?_ (rpA_keys b hs.2)
      have h1 := hs.1
      cases e : p.1 with
      | inl i => exact .int i
      | inr z => rw [e] at h1; exact .str h1
theorem sx_list (c : Ctx C X) (h : call1 C "list" e = some x) (hx : PE X x tx) : PE X e (tUn (rX1 X.K B (evX1 .list)) tx) := by
  refine pe_t1 c h (by decide +kernel) boot_list (by decide +kernel) (by decide +kernel) (callr_l1 (CallR.or call_list_of (cr_listR c.calm)) ?_) hx
  rintro x H Q ⟨I, M, S, d, z, R, rp, e, ok⟩
  have tp := R.top rp
  generalize res S d = d' at e tp
  cases d' <;> simp only [evX1, reduceCtorEq] at e
  · cases e
    obtain ⟨a, vs, rfl, hI, hH, ra⟩ := n_tuple tp
    exact .inl ⟨a, vs, rfl, .inr (SqT.of hH), fun l hl => ok.now R ra hl⟩
  · cases e
    obtain ⟨a, vs, rfl, hH, ra⟩ := n_lst tp
    exact .inl ⟨a, vs, rfl, .inl (SqL.of hH), fun l hl => ok.now R ra hl⟩
  · cases e
    cases tp with
    | dK h1 h2 h3 =>
      obtain ⟨rfl, hk⟩ := h2
      exact .inr ⟨_, _, rfl, h1, fun q hq => ok.now R (rpA_keys h3 hk) hq⟩
theorem sx_listRange (c : Ctx C X) (h : (call1 C "list" e).bind (call1 C "range") = some x) (hx : PE X x tx) : PE X e (tUn (rX1 X.K B (evX1 .listRange)) tx) := by
  cases e1 : call1 C "list" e with
  | none => rw [e1] at h; cases h
  | some y =>
    rw [e1] at h
    have h' : call1 C "range" y = some x := h
    obtain ⟨⟨p, pos, rfl⟩, hg, hs⟩ := call1_eq e1
    obtain ⟨⟨p2, pos2, rfl⟩, hg2, hs2⟩ := call1_eq h'
    have c1 := c.blt "list" (by decide +kernel)
    have c2 := c.blt "range" (by decide +kernel)
    refine PE.imp (pe_listRg c.calm (c.gl hg) c1 (prg_1 (c.gl hg2) c2 (Bp.PE.mo hx) (ns_star hs2 _ _))) ?_
    intro σ H Q q
    refine ⟨_, q, ?_⟩
    rintro x H ⟨I, M, S, d, z, R, rp, e, ok⟩
    have tp := R.top rp
    generalize res S d = d' at e tp
    cases d' <;> simp only [evX1, reduceCtorEq] at e
    split at e
    · rename_i hn
      cases e
      cases n_int tp
      exact ⟨_, rfl, RgOk.of_le (Int.le_refl _) (by omega) (by omega) hn.1, fun q hq => ok.now R (RpA.rng _) hq⟩
    · cases e
theorem sx_sortedI (c : Ctx C X) (h : call1 C "sorted" e = some x) (hx : PE X x tx) : PE X e (tUn (rX1 X.K B (evX1 .sortedI)) tx) := by
  refine pe_b1 c h (by decide +kernel) boot_sorted (by decide +kernel) (by decide +kernel) (callr_l1 cr_sortedI ?_) hx
  rintro x H Q ⟨I, M, S, d, z, R, rp, e, ok⟩
  have tp := R.top rp
  generalize res S d = d' at e tp
  cases d' <;> simp only [evX1, reduceCtorEq] at e
  rename_i xs
  obtain ⟨a, vs, rfl, hH, ra⟩ := n_lst tp
  cases e1 : dInts xs with
  | none => rw [e1] at e; cases e
  | some bs =>
    rw [e1] at e
    simp only [Option.bind] at e
    split at e
    · cases e
      rw [dInts_map e1] at ra
      rw [ra.ints] at hH
      refine ⟨a, bs, rfl, SqL.of hH, fun ns' p hp ho hn => ?_⟩
      have : ns' = sortI bs := (hp.trans (perm_sortI bs).symm).eq_of_pairwise (fun x y _ _ h1 h2 => Int.le_antisymm h1 h2) ho (sorted_sortI bs)
      subst this
      exact ok.now R (RpA.of_ints _) hn
    · cases e
theorem slr_imp {r r' : V → Option Int → Option Int → Hp → VK → Prop} (h : SlR X r) (k : ∀ x lo hi H Q, r' x lo hi H Q → r x lo hi H Q) : SlR X r' := fun pins s σ H x v vl vu lo hi sl Q I rx hs pl pu q => h pins s σ H x v vl vu lo hi sl Q I rx hs pl pu (k _ _ _ _ _ q)
theorem b_sl : SlR X (rSl X.K B) := by
  refine slr_imp (SlR.or sl_list (SlR.or sl_tupA sl_str)) ?_
  rintro x lo hi H Q ⟨I, M, S, d, z, R, rp, e, ok⟩
  have tp := R.top rp
  generalize res S d = d' at e tp
  cases d' <;> simp only [slD, reduceCtorEq] at e
  · split at e
    · rename_i hl
      cases e
      obtain ⟨rfl, s1⟩ := n_str tp
      refine .inr (.inr ⟨_, rfl, hl, ok.now R ?_⟩)
      refine .str ?_
      refine sOk_sub s1 fun k hk => ?_
      exact List.mem_of_mem_drop (List.mem_of_mem_take hk)
    · cases e
  · cases e
    obtain ⟨a, vs, rfl, hI, hH, ra⟩ := n_tuple tp
    refine .inr (.inl ⟨a, vs, rfl, SqT.of hH, fun hw => ?_, fun hw p hp => ok.newTup R (ra.cut lo hi) hp⟩)
    have e2 := ra.cut lo hi
    have e3 : cutV vs lo hi = vs := by
      unfold cutV
      rw [hw.1, hw.2]
      simp
    rw [e3] at e2
    exact ok.now R (.tup hI e2)
  · cases e
    obtain ⟨a, vs, rfl, hH, ra⟩ := n_lst tp
    exact .inl ⟨a, vs, rfl, SqL.of hH, fun p hp => ok.newLst R (ra.cut lo hi) hp⟩
end
end Bp

namespace Bp
open PySem PySem.Spec L2 PyProof.Rows
/-! ### sorted(set(list of whole numbers)) -/
section
variable {P : Program} {w : World} {A : Around} {E : Value → Shared → Prop} {s : Shared}
/-- an empty set, as it is laid -/
abbrev set0 (w : World) : Obj := { cls := .type "set", dict := none, data := .set #[] 0 (.fresh 0 0 (!w.params.followText "set-order")) }
/-- what `set` leaves -/
def SetQ (w : World) (s : Shared) (ns : List Int) (s2 : Shared) : Prop := ∃ h' tk c, s2 = { s with heap := h', toks := tk } ∧ SetR w h' s.heap.objs.size (fun j => decide (j ∈ ns)) c ∧ c ≤ ns.length ∧ ∀ b o, s.heap.get? b = some o → h'.get? b = some o
theorem setL_call {l : Addr} {its : Array Value} (ns : List Int) {Q : Value → Shared → Prop} (hd0 : A.handled = none) (hl : s.heap.IsList l its) (hi : IntsAre its.toList ns) (room : ns.length + 1 < scanBound) (fin : ∀ s2, SetQ w s ns s2 → Q (.ref s.heap.objs.size) s2) :
    wpAny (model P w) A (call (.type "set") [.ref l]) Q E s := by
  have sz : its.size = ns.length := (Array.length_toList (xs := its)).symm.trans (IntsAre.length hi)
  obtain ⟨m1, m2, m3⟩ := F.called_set.mro
  have k1 := F.called_set.made; have k2 := F.called_set.sub; have k3 := F.called_set.notType; have k4 := F.called_set.canCreate; have k5 := F.typeCall_set_1 (.ref l)
  refine wpAny_call (codeAny_of_tree ?_); show wpAny _ _ (callAny (.type "set") _) _ _ _
  refine wpAny_pure ⟨Code.quiet_builtin _ (by decide +kernel), codeAny_builtin F.entry_type_call ?_⟩; rw [Around.under_plain (weight_type_call_type "set" [.ref l] []) rfl]
  repeat (any_goals (first | assumption | wp_step))
  refine codeAny_mono (code_set_led1 (.ref l) (E := E) (Q₁ := fun x s1 => x = .ref s.heap.objs.size ∧ s1 = { s with heap := s.heap.push (set0 w) }) ⟨rfl, rfl⟩) fun r s1 q1 => ?_
  cases r with
  | error e => exact q1
  | ok fl =>
    cases fl <;> first | exact q1.elim | skip
    obtain ⟨rfl, rfl⟩ := q1
    have g0 : (s.heap.push (set0 w)).get? s.heap.objs.size = some (set0 w) := Heap.get?_push_size _ rfl
    have g1 : Shared.TypeIs { s with heap := s.heap.push (set0 w) } (.ref s.heap.objs.size) "set" := ⟨_, g0, rfl⟩
    have g2 := F.called_set.init.lookup; have g3 := F.called_set.init.bind (.ref s.heap.objs.size)
    repeat (any_goals (first | assumption | wp_step))
    refine codeAny_mono (codeAny_call_builtin (R := wants (fun r s2 => r = .none ∧ SetQ w s ns s2) E) F.called_set.init.plain F.entry_set_init (check_set_init_1 g1 ?_)) fun r2 s2 q2 => ?_
    · obtain ⟨⟨oc, od, oa, os⟩, ho, hc, hn, hd⟩ := hl
      simp only at hc hd; subst hc; subst hd
      have ho' : (s.heap.push (set0 w)).get? l = some { cls := .type "list", dict := od, data := .seq its hn, slots := os } := Heap.get?_push_of_some _ ho
      have n1 := F.sub_list_set; have n2 := F.sub_list_frozenset; have n3 : (Value.type "list" == Value.type "dict") = false := by decide
      have L1 : (s.heap.push (set0 w)).IsList l its := ⟨_, ho', rfl, hn, rfl⟩
      unfold Builtin.«set.__init__» noKeywords Builtin.Frozenset.updateFrom; generalize hP : pyIter = PI
      wp_walk
      subst hP
      refine wpAny_pyIter_list L1 ?_; refine wpAny_bind (wpAny_runValue ?_)
      have lt : l < s.heap.objs.size := Heap.lt_size ho
      have up : (s.heap.push (set0 w)).objs.size = s.heap.objs.size + 1 := Heap.size_push ..
      have h3 : A.in1.in1.in1.handled = none := by simp [hd0]
      have ne : l ≠ (s.heap.push (set0 w)).objs.size := by rw [up]; exact Nat.ne_of_lt (Nat.lt_succ_of_lt lt)
      have nf : s.heap.objs.size ∉ [(s.heap.push (set0 w)).objs.size, l] := by
        rw [up]; simp only [List.mem_cons, List.not_mem_nil, or_false, not_or]; exact ⟨Nat.ne_of_lt (Nat.lt_succ_self _), Nat.ne_of_gt lt⟩
      have val : ∀ (i : Nat) (v : Value), its[i]? = some v → ∃ k t, ns[i]? = some k ∧ v = .int k t := fun i v e => by
        have lt' : i < ns.length := by rw [← sz]; exact (Array.getElem?_eq_some_iff.mp e).1
        obtain ⟨t, e'⟩ := PyProof.Rows.IntsAre.int_at hi i v (by rw [Array.getElem?_toList]; exact e)
        exact ⟨ns[i], t, List.getElem?_eq_getElem lt', by rw [e', List.getD_eq_getElem?_getD, List.getElem?_eq_getElem lt'] <;> rfl⟩
      refine set_update_ints ((Walks.list h3 _ l ne its).toS) s.heap.objs.size nf ns sz room val (its.size - 0) 0 _ (by omega) (Nat.zero_le _) ⟨⟨_, Heap.get?_push_size _ rfl, rfl, rfl⟩, (L1.push _)⟩ ⟨0, Nat.le_refl 0, setR_new_at (Heap.get?_push_of_some _ g0)⟩ ?_
      rintro ⟨h', g', d', tk', os'⟩ c' mv hc' hS'
      have e1 : g' = s.gens := mv.gens; have e2 : d' = s.drawn := mv.drawn; have e3 : os' = s.os := mv.os
      subst e1; subst e2; subst e3
      show wpAny _ _ _ _ _ _
      refine wpAny_pure ?_; show wpAny _ _ (ret Value.none) _ _ _
      refine wpAny_pure ⟨rfl, h', tk', c', rfl, hS', by rw [← sz]; exact hc', fun b o e => ?_⟩
      have lb : b < s.heap.objs.size := Heap.lt_size e
      refine mv.heap b o ?_ (Heap.get?_push_of_some _ (Heap.get?_push_of_some _ e))
      rw [up]; simp only [List.mem_cons, List.not_mem_nil, or_false, not_or]; exact ⟨Nat.ne_of_lt lb, Nat.ne_of_lt (Nat.lt_succ_of_lt lb)⟩
    · cases r2 with
      | error e => exact q2
      | ok fl2 =>
        cases fl2 <;> first | exact q2.elim | skip
        obtain ⟨rfl, q2⟩ := q2
        repeat (any_goals (first | assumption | wp_step))
        exact fin _ q2
end
section
variable {C : Cg} {X : Cx} {B : Fm} {e x : Expr} {tx : TE}
def rSetL (w : World) (K : PySem.W.Frag) : List V → Hp → VK → Prop := fun vs H Q => ∃ (l : Addr) (ns : List Int), vs = [.ref l] ∧ SqL K H l (ns.map V.int) ∧ ns.length < 60 ∧ ∀ p c, H p = none → c ≤ ns.length → Q (.ref p) (upd H p (SetO w p (fun j => decide (j ∈ ns)) c))
theorem cr_setL (hc : X.calm = true) : CallR X (.type "set") (rSetL X.w X.K) := by
  intro pins s σ H vs us Q I r h
  obtain ⟨l, ns, rfl, hs, hn, q⟩ := h
  rw [Vals.ref1 r]
  obtain ⟨its, rv, pl, hlen⟩ := I.list hs
  refine setL_call ns (I.ok.hd hc) pl.isList (by simpa using ints_of_vals rv) (by unfold scanBound; omega) ?_
  rintro _ ⟨h', tk, c, rfl, R, hc', hk⟩
  exact ⟨.ref _, upd H s.heap.objs.size (SetO X.w s.heap.objs.size (fun j => decide (j ∈ ns)) c), I.laid (t' := tk) hk (Nat.le_refl _) (setO_new R), rfl, q _ c (I.hok.fresh (Nat.le_refl _)) hc'⟩
end
end Bp

namespace Bp
open PySem PySem.Spec L2 PyProof.Rows
section
variable {C : Cg} {X : Cx} {B : Fm} {e x : Expr} {tx : TE}
/-- a thing that is none of ours put in -/
theorem Rel.put {K : PySem.W.Frag} {I : Hp} {M : List Addr} {S : Sto} {H : Hp} (R : Rel K B I M S H) {D : Addr} {o : HO} (hI : I D = none) (hm : ∀ n : Nat, M[n]? ≠ some D) (h0 : B.H0 D = none ∨ B.Mu D) (hD : ∀ u, H D = some u → isCl u = true) : Rel K B I M S (upd H D o) := by
  refine ⟨fun a u h => (R.sub a u h).upd (fun z => by rw [z, hI] at h; cases h), R.lk, R.len, R.nd, fun n a c h1 h2 => ?_, fun a u h hmu => (R.keep a u h hmu).upd (fun z => ?_), R.lkn, fun a h => ?_, R.own, R.ext, R.base, R.tb0, R.tb⟩
  · have ne : a ≠ D := fun z => hm n (by rw [h1, z])
    exact (R.cell n a c h1 h2).stay Le.refl (fun m => (R.cell n a c h1 h2).free m) (fun _ => upd_ne ne) (fun b u h z => by rw [upd_ne (fun e => by rw [e] at h; rw [hD u h] at z; cases z)]; exact h)
  · rcases h0 with q | q
    · rw [z, q] at h; cases h
    · rw [z] at hmu; exact hmu q
  · by_cases e : a = D
    · rw [e, upd_same] at h; cases h
    · rw [upd_ne e] at h; exact R.live a h
/-- .. where nothing stood -/
theorem Rel.put' {K : PySem.W.Frag} {I : Hp} {M : List Addr} {S : Sto} {H : Hp} (R : Rel K B I M S H) {D : Addr} {o : HO} (hD : H D = none) : Rel K B I M S (upd H D o) := by
  have av : ∀ {L : Addr → Prop} {a : Addr} {u : HO}, At L H a u → At L (upd H D o) a u := fun h => h.upd (by
    obtain ⟨w, e⟩ := h.there
    exact ne_of_none e hD)
  refine ⟨fun a u h => av (R.sub a u h), R.lk, R.len, R.nd, fun n a c h1 h2 => ?_, fun a u h hmu => av (R.keep a u h hmu), R.lkn, fun a h => ?_, R.own, R.ext, R.base, R.tb0, R.tb⟩
  · obtain ⟨_, u, _, ho⟩ := R.there h1
    exact (R.cell n a c h1 h2).stay Le.refl (fun m => (R.cell n a c h1 h2).free m) (fun _ => upd_ne (ne_of_none ho hD)) (fun b u h _ => by rw [upd_ne (ne_of_none h hD)]; exact h)
  · by_cases e : a = D
    · rw [e, upd_same] at h; cases h
    · rw [upd_ne e] at h; exact R.live a h
theorem sx_sortedSet (c : Ctx C X) (h : (call1 C "sorted" e).bind (call1 C "set") = some x) (hx : PE X x tx) : PE X e (tUn (rX1 X.K B (evX1 .sortedSetI)) tx) := by
  cases e1 : call1 C "sorted" e with
  | none => rw [e1] at h; cases h
  | some y =>
    rw [e1] at h
    have h' : call1 C "set" y = some x := h
    have p1 := pe_t1 (r := fun v H Q => rSetL X.w X.K [v] H Q) c h' (by decide +kernel) (show bootBuiltins "set" = some (.type "set") by decide +kernel) (by decide +kernel) (by decide +kernel) (callr_l1 (cr_setL c.calm) fun _ _ _ q => q) (Bp.PE.mo hx)
    have p2 := pe_b1 (r := fun v H Q => rSortedSet X.w [v] H Q) c e1 (by decide +kernel) boot_sorted (by decide +kernel) (by decide +kernel) (callr_l1 (cr_sortedSet c.calm) fun _ _ _ q => q) p1
    refine PE.imp p2 ?_
    intro σ H Q q
    refine ⟨_, q, ?_⟩
    rintro x H ⟨I, M, S, d, z, R, rp, e, ok⟩
    have tp := R.top rp
    generalize res S d = d' at e tp
    cases d' <;> simp only [evX1, reduceCtorEq] at e
    rename_i xs
    obtain ⟨a, vs, rfl, hH, ra⟩ := n_lst tp
    cases e1 : dInts xs with
    | none => rw [e1] at e; cases e
    | some bs =>
      rw [e1] at e
      simp only [Option.bind] at e
      split at e
      · rename_i hl
        cases e
        rw [dInts_map e1] at ra
        rw [ra.ints] at hH
        refine ⟨a, bs, rfl, SqL.of hH, hl, fun p k hp hk => ?_⟩
        refine ⟨p, _, k, rfl, upd_same, by omega, fun ns q hs hm _ hq => ?_⟩
        have : ns = setI bs := rise_same hs (sorted_setI bs) fun j => by rw [hm, mem_setI]; simp
        subst this
        exact ok.now (R.put' hp) (RpA.of_ints _) hq
      · cases e
end
end Bp

namespace Bp
open PySem L2 PyProof.Rows
/-! ### a def's promise -/
def spP (cls : Nat → Value) (K : PySem.W.Frag) (n : Nat) (F : List D → P) : Sp := fun vs H Q E => vs.length = n ∧ ∃ I L ds, (∀ a o, I a = some o → At L H a o) ∧ (∀ a, L a → ∃ o, I a = some o ∧ isDict o = true) ∧ RpA K I [] vs ds ∧ (match F ds with
  | .ok d => ∀ I' H' v, Same H H' → Same I I' → (∀ a o, I' a = some o → I a = some o ∨ (nt o = true ∧ H a = none) ∨ isTo o = true) → (∀ a o, I' a = some o → At L H' a o) → Rp K I' [] v d → Q v H'
  | .ex c => ∀ H', Same H H' → E (cls c) none H'
  | .no => False)
def wx (C : Cg) (W : WN) : WX := fun cls d σ H => ∃ c, cls = C.cls c ∧ d = none ∧ W c σ H
/-- what the def that is handed a lambda makes of it -/
def TTn (cls : Nat → Value) : (XK → Hp → VK → Prop) → Hp → VK → Prop := fun tl H Q => tl (fun cl d H' => ∃ c, c < 10 ∧ cl = cls c ∧ d = none ∧ ∀ H2, Same H' H2 → Q (.str (nmOf c)) H2) H Q
structure ToldOk (C : Cg) (X : Cx) : Prop where
  call : ∃ (g c : Addr) (pg : Arguments) (bg : List Stmt) (sg : Scope) (dV kV doc pm cdv ct oc : Value) (an od : Option Addr) (osl : Array (Option Value)) (Ng : List Str) (a : Str),
    X.mg "_law_told" = some (.ref g) ∧ PySem.W.keepIn X.K (.ref g) = true ∧ X.K.lookup g = some ⟨oc, od, .func (PySem.W.fnOf "_law_told" "_law_told" pg bg sg dV kV doc pm an cdv ct), osl⟩ ∧ PySem.W.codeIn X.K cdv "_law_told" = true ∧
    Binds X.K (PySem.W.fnOf "_law_told" "_law_told" pg bg sg dV kV doc pm an cdv ct) [a] [] ∧ FnScope Ng [a] sg ∧ Ng[0]? = some a ∧ Vis sg a ∧ (a == ("__debug__" : Str)) = false ∧ (a == ("__classdict__" : Str)) = false ∧
    LamX.GivesTo X Ng "_law_told" sg g cdv bg a lamQ (TTn C.cls) ∧ LamX.TabB X.base X.mg c (tabL X.K) ∧ X.env.code = .ref c
  qual : X.env.qual = lawQ
  lv : 2 ≤ C.lv
  fns : ∀ (i : Nat) x, C.fns[i]? = some x → ∃ f fd ps, X.mg x = some (.ref f) ∧ PySem.W.keepIn X.K (.ref f) = true ∧ Binds X.K fd ps [] ∧ (∀ ds, C.E.F i ds ≠ .no → ds.length = ps.length) ∧ FnOk X.prog X.w X.K X.mg X.base (L2.CX X.prog X.w) (C.lv - 2) f fd ps (spP C.cls X.K ps.length (C.E.F i))
structure Ctx2 (C : Cg) (X : Cx) (W : WN) : Prop extends Ctx C X where
  takes : Takes X (wx C W)
  fns : ∀ (i : Nat) x, C.fns[i]? = some x → ∃ f fd ps, X.mg x = some (.ref f) ∧ PySem.W.keepIn X.K (.ref f) = true ∧ Binds X.K fd ps [] ∧ (∀ ds, C.E.F i ds ≠ .no → ds.length = ps.length) ∧ FnOk X.prog X.w X.K X.mg X.base (L2.CX X.prog X.w) C.lv f fd ps (spP C.cls X.K ps.length (C.E.F i))
  cons : ∀ (i : Nat) x, C.cons[i]? = some x → ∃ u v, X.mg x = some u ∧ RelV v u ∧ ∀ I M, Rp X.K I M v (C.E.G i)
  told : C.told = true → ToldOk C X
theorem strip_all {K : PySem.W.Frag} {I : Hp} {M : List Addr} {n : Nat} (ih : ∀ (d : D) (v : V), okN n d = true → Rp K I M v d → Rp K I [] v d) : ∀ {vs : List V} {ds : List D}, RpA K I M vs ds → ds.all (okN n) = true → RpA K I [] vs ds
  | _, _, .nil, _ => .nil
  | _, _, .cons a b, h => by
    simp only [List.all_cons, Bool.and_eq_true] at h
    exact .cons (ih _ _ h.1 a) (strip_all ih b h.2)
theorem Rp.strip {K : PySem.W.Frag} {I : Hp} {M : List Addr} : ∀ (n : Nat) (d : D) (v : V), okN n d = true → Rp K I M v d → Rp K I [] v d := by
  intro n
  induction n with
  | zero => intro d v h; simp [okN] at h
  | succ n ih =>
    intro d v h r
    cases r with
    | non => exact .non
    | bl b => exact .bl b
    | int b => exact .int b
    | str b => exact .str b
    | scr b => exact .scr b
    | tup a b => exact .tup a (strip_all ih b h)
    | lst a b => exact .lst a (strip_all ih b h)
    | dK a k b => exact .dK a k (strip_all ih b h)
    | dT a k b => exact .dT a k (strip_all ih b h)
    | loc _ => cases h
theorem RpA.strip {K : PySem.W.Frag} {I : Hp} {M : List Addr} {n : Nat} {ds : List D} {vs : List V} (h : ds.all (okN n) = true) (r : RpA K I M vs ds) : RpA K I [] vs ds := strip_all (fun d v => Rp.strip n d v) r h
theorem Rp.less {K : PySem.W.Frag} {I : Hp} {M : List Addr} {d : D} {v : V} (h : Rp K I [] v d) : Rp K I M v d := h.mono ⟨Same.refl _, fun n a e => by simp at e⟩
/-! ### the text and its form -/
def vis (C : Cg) (x : Str) : Bool := match C.sc.names.lookup x with
  | some .local => true
  | some .cell => true
  | some .free => true
  | _ => false
def okName (x : Str) : Bool := decide (¬ x = "__debug__") && decide (¬ x = "__classdict__")
def okSlot (C : Cg) (i : Nat) (x : Str) : Bool := decide (C.N[i]? = some x) && vis C x && okName x
def cmpOp : O2 → Option CmpOp
  | .eq => some .Eq
  | .ne => some .NotEq
  | .lt => some .Lt
  | .le => some .LtE
  | .gt => some .Gt
  | .ge => some .GtE
  | .inS => some .In
  | .ninS => some .NotIn
  | .inL => some .In
  | .ninL => some .NotIn
  | .inD => some .In
  | .ninD => some .NotIn
  | .isN => some .Is
  | .nisN => some .IsNot
  | .isB => some .Is
  | .nisB => some .IsNot
  | _ => none
def binOp : O2 → Option Operator
  | .add => some .Add
  | .sub => some .Sub
  | .mul => some .Mult
  | .fdiv => some .FloorDiv
  | .mod => some .Mod
  | _ => none
def nset : Expr → Bool
  | .Set _ _ _ => false
  | _ => true
def nslice : Expr → Bool
  | .Slice _ _ _ _ => false
  | _ => true
def split2 (o : O2) : Expr → Option (Expr × Expr)
  | .BinOp x op y _ => if binOp o = some op then some (x, y) else none
  | .Compare x [op] [y] _ => if cmpOp o = some op ∧ nset y = true then some (x, y) else none
  | .Subscript x y _ => if o = .idx ∧ nslice y = true then some (x, y) else none
  | _ => none
theorem nset_mark {y : Expr} (h : nset y = true) (op : CmpOp) : behindInMarks op y = false := by
  cases y <;> first | rfl | cases h
theorem nslice_plain {y : Expr} (h : nslice y = true) : PlainIx y := by
  intro o i
  cases y <;> first | rfl | cases h
section
variable {C : Cg} {X : Cx} {B : Fm} {W : WN}
theorem cmp_ok (c : Ctx C X) {o : O2} {op : CmpOp} (h : cmpOp o = some op) : OpR X (compareOp op) (r2 X.K B (ev2 o)) := by
  cases o <;> cases h
  · exact c_eq c
  · exact c_ne c
  · exact c_lt
  · exact c_le
  · exact c_gt
  · exact c_ge
  · exact c_inS
  · exact c_ninS
  · exact c_inL c
  · exact c_ninL c
  · exact c_inD c
  · exact c_ninD c
  · exact c_isN
  · exact c_nisN
  · exact c_isB
  · exact c_nisB
theorem bin_ok {o : O2} {op : Operator} (h : binOp o = some op) : OpR X (binaryOp op) (r2 X.K B (ev2 o)) := by
  cases o <;> cases h
  · exact b_add
  · exact b_sub
  · exact b_mul
  · exact b_fdiv
  · exact b_mod
theorem s2 (c : Ctx C X) {o : O2} {e x y : Expr} {tx ty : TE} (h : split2 o e = some (x, y)) (hx : PE X x tx) (hy : PE X y ty) : PE X e (tOp (r2 X.K B (ev2 o)) tx ty) := by
  unfold split2 at h
  split at h
  · split at h
    · rename_i hh
      cases h
      exact pe_op (bin_ok hh) hx hy
    · cases h
  · split at h
    · rename_i hh
      cases h
      exact pe_cmpR (cmp_ok c hh.1) hx hy (nset_mark hh.2 _)
    · cases h
  · split at h
    · rename_i hh
      cases h
      obtain ⟨rfl, hs⟩ := hh
      exact pe_ix (b_idx c) hx hy (nslice_plain hs)
    · cases h
  · cases h
theorem s1 (c : Ctx C X) {o : O1} {e x : Expr} {tx : TE} (h : split1 C o e = some x) (hx : PE X x tx) : PE X e (t1 X.K B (ev1 o) tx) := by
  cases o with
  | len => exact ss_len c h hx
  | allB => exact ss_all c h hx
  | anyB => exact ss_any c h hx
  | tuple => exact ss_tuple c h hx
  | tupRange => exact ss_tupRange c h hx
  | intB => exact ss_int c h hx
  | strI => exact ss_str c h hx
  | sum => exact ss_sum c h hx
  | absI => exact ss_abs c h hx
  | dictP => cases h
  | maxI => cases h
  | neg =>
    unfold split1 at h
    split at h <;> first | contradiction | skip
    cases h
    exact ss_neg c hx
  | isi k =>
    unfold split1 at h
    split at h <;> first | contradiction | skip
    rename_i k' f p x' ty pos heq
    cases heq
    split at h
    · rename_i hh
      cases h
      obtain ⟨rfl, h1, h2, h3⟩ := hh
      exact ss_isi c h1 h2 h3 hx
    · cases h
  | isis ks =>
    unfold split1 at h
    split at h <;> first | contradiction | skip
    rename_i k' f p x' ts k2 p2 pos heq
    cases heq
    split at h
    · rename_i hh
      cases h
      obtain ⟨rfl, h0, h1, h2, h3⟩ := hh
      exact ss_isis c h0 h1 h2 h3 hx
    · cases h
theorem sX1 (c : Ctx C X) {o : X1} {e x : Expr} {tx : TE} (h : splitX1 C o e = some x) (hx : PE X x tx) : PE X e (tUn (rX1 X.K B (evX1 o)) tx) := by
  cases o with
  | list => exact sx_list c h hx
  | listRange => exact sx_listRange c h hx
  | sortedI => exact sx_sortedI c h hx
  | sortedSetI => exact sx_sortedSet c h hx
end
end Bp

namespace Bp
open PySem PySem.Spec PyProof.Rows L2
/-! ### enumerate(tuple) -/
def IteT (K : PySem.W.Frag) (a : Addr) : It :=
  ⟨fun i H => ∃ (xs : List V) (x : V), SqT K H a xs ∧ xs[i]? = some x, fun i H v H' => ∃ T x, v = .ref T ∧ H T = none ∧ H' = upd H T (.tup [.int (i : Nat), x]) ∧ ∀ xs, SqT K H a xs → xs[i]? = some x, fun i H => ∃ xs : List V, SqT K H a xs ∧ xs.length ≤ i⟩
theorem turn_enumT {P : Program} {w : World} {K : PySem.W.Frag} {elts : List Expr} {kk : Nat} {tpos : Pos} (a e it : Addr) :
    Turn P w K (.Tuple elts kk tpos) (IteT K a) [e, it] e (fun i h => (∃ old, IsEnum h e it ((i : Nat) : Int) old) ∧ h.IsTupleIter it a i ∧ e ≠ it ∧ a ≠ it ∧ a ≠ e) where
  mem := by simp
  obj := fun i h st b hb => by
    obtain ⟨⟨old, he⟩, ⟨o, ho, hc, hd⟩, _⟩ := st
    have e' : b = e ∨ b = it := by simpa using hb
    rcases e' with z | z
    · rw [z]; exact ⟨_, he, fun v q => nomatch q⟩
    · rw [z]; exact ⟨o, ho, fun v q => by rw [hd] at q; cases q⟩
  keep := fun i h h' st k => let ⟨⟨old, he⟩, hi, hne⟩ := st; ⟨⟨old, k e (by simp) _ he⟩, hi.at fun o q => k it (by simp) o q, hne⟩
  item := by
    intro X hP hw hK hc i pins s σ H E I hf st hg
    subst hP hw hK
    obtain ⟨⟨old, he⟩, hit, hne, hai, hae⟩ := st
    obtain ⟨xs, x, hq, hx⟩ := hg
    obtain ⟨its, rv, p, hz⟩ := I.tuple hq
    obtain ⟨u, hu, ru⟩ := rv.get hx
    have hel : e < s.heap.objs.size := Heap.lt_size he
    have hil : it < s.heap.objs.size := by obtain ⟨_, q, _⟩ := hit; exact Heap.lt_size q
    have hlt : i < its.toArray.size := by
      rw [List.size_toArray]
      exact (List.getElem?_eq_some_iff.mp hu).1
    refine wpAny_pyNext_enum_itemD (Draws.tuple (A := X.A.in1) (show X.A.in1.handled = none from I.ok.hd hc) it a hai its.toArray) he ⟨hit, p⟩ hlt hne (by simp; exact ⟨hne, Ne.symm hae⟩) fun u' h' tk hP ho hst' hT hsz hk => ?_
    have eu : u' = u := by
      have h1 : its.toArray[i]? = some u := by simpa using hu
      rw [h1] at hP
      exact (Option.some.inj hP).symm
    subst eu
    refine ⟨_, rfl, wpAny_letOwnedTupleGo_enum (s := { s with heap := h', toks := tk + 1 }) ho fun h'' he' sb => ?_⟩
    have hT2 : h''.get? s.heap.objs.size = some { cls := .type "tuple", data := .seq #[.int i tk, u'] } := (sb.2 _ (Nat.ne_of_gt hel)).trans hT
    have new : ObjOk X.prog X.w (upd H s.heap.objs.size (.tup [.int (i : Nat), x])) h'' s.heap.objs.size (.tup [.int (i : Nat), x]) :=
      ⟨by show 2 ≤ sizeLine; decide, [.int i tk, u'], .cons ⟨_, rfl⟩ (.cons ru .nil), ⟨_, hT2, rfl, _, rfl⟩⟩
    have I1 : Inv X pins σ (upd H s.heap.objs.size (.tup [.int (i : Nat), x])) { s with heap := h'', toks := tk + 1 } :=
      I.turnedNew (ch := [e, it]) (fun b ob hb q => (sb.2 b (fun z => hb (by simp [z]))).trans (hk b ob (fun z => hb (by simp [z])) (fun z => hb (by simp [z])) q)) hf (Nat.le_refl _) new
    refine ⟨.ref s.heap.objs.size, _, I1, rfl, ⟨_, x, rfl, I.hok.fresh (Nat.le_refl _), rfl, fun ys hy => by rw [I.tuple_inj hy hq]; exact hx⟩, ⟨⟨u', ?_⟩, hst'.1.at fun o q => (sb.2 it (Ne.symm hne)).trans q, hne, hai, hae⟩, fun b hb => ?_⟩
    · have e1 : ((i + 1 : Nat) : Int) = (i : Int) + 1 := by omega
      rw [e1]; exact he'
    · have hb' : b < s.heap.objs.size := by
        have e' : b = e ∨ b = it := by simpa using hb
        rcases e' with z | z
        · rw [z]; exact hel
        · rw [z]; exact hil
      rw [upd_ne (Nat.ne_of_lt hb')]
      exact (hf b hb).1
  done := by
    intro X hP hw hK hc i pins s σ H E I hf st hg
    subst hP hw hK
    obtain ⟨⟨old, he⟩, hit, hne, hai, hae⟩ := st
    obtain ⟨xs, hq, hx⟩ := hg
    obtain ⟨its, rv, p, hz⟩ := I.tuple hq
    obtain ⟨f0, f1, f2, f3, f4, f5⟩ := hf it (by simp)
    have hl := rv.length
    have hn : its.toArray[i]? = none := by
      refine Array.getElem?_eq_none ?_
      rw [List.size_toArray]
      omega
    have hh : X.A.in1.handled = none := I.ok.hd hc
    have D : Draws X.prog X.w X.A.in1 it [it, a] i (fun _ _ => True) (fun j h => j = i ∧ h.IsTupleIter it a i ∧ h.IsTuple a its.toArray) := {
      live := fun _ _ st => let ⟨o, ho, _⟩ := st.2.1; ⟨o, ho⟩
      frame := fun _ _ _ st k => ⟨st.1, st.2.1.at fun o q => k it (by simp) o q, st.2.2.at fun o q => k a (by simp) o q⟩
      item := fun j s Q E hj st _ => absurd st.1 (Nat.ne_of_lt hj)
      done := fun s Q E st hE => wpAny_nextOf_tuple_end hh st.2.1 st.2.2 hn hE }
    exact wpAny_pyNext_enum_endD D he ⟨rfl, hit, p⟩ fun h' eb => ⟨rfl, I.turned (t' := s.toks) (fun b o hb q => eb b o hb q) f0 f1 f3 f4 f5⟩
  self := fun A i s Q E st h => let ⟨⟨_, he⟩, _⟩ := st; wpAny_pyIter_enum he h
section
variable {prog : Program} {w : World} {A : Around} {E : Value → Shared → Prop} {s : Shared}
set_option maxHeartbeats 1000000 in
theorem meets_enum1 {v : Value} {o : Obj} {H : Heap → Prop} (B : Begins v o H) :
    Meets (Builtin.«enumerate.__new__» ⟨[.type "enumerate", v], []⟩) (fun _ R s => H s.heap ∧
      R (.ok (.ret (.ref (s.heap.push o).objs.size))) { s with heap := (s.heap.push o).push { cls := .type "enumerate", data := .fields #[.none, .bool false, .ref s.heap.objs.size, rawInt 0, .none, .none] } }) :=
  .of_wp fun prog w A R s h => by
    obtain ⟨hp, g, d, tk, os⟩ := s; obtain ⟨h1, h⟩ := h
    have hsub := sub_enumerate
    have q1 : ∀ {A' : Around} {E : Value → Shared → Prop} {Q : Value → Shared → Prop}, Q (.ref hp.objs.size) ⟨hp.push o, g, d, tk, os⟩ → wpAny (model prog w) A' (pyIter v) Q E ⟨hp, g, d, tk, os⟩ :=
      fun q => B.iter prog w _ _ ⟨hp, g, d, tk, os⟩ _ h1 q
    wp_walk using q1
    refine wpAny_stack_any fun st => wpAny_pure ?_
    split
    · rename_i c _ _ _ _ _
      cases (c == Value.type "enumerate")
      · wp_walk using q1
        exact ⟨_, rfl, h⟩
      · wp_walk using q1
        exact ⟨_, rfl, h⟩
    · wp_walk using q1
      exact ⟨_, rfl, h⟩
theorem call_enumT {t : Addr} {items : Array Value} {Q : Value → Shared → Prop} (hL : s.heap.IsTuple t items)
    (h : ∀ h', IsEnum h' (s.heap.objs.size + 1) s.heap.objs.size 0 .none → h'.IsTupleIter s.heap.objs.size t 0 → (∀ b o, s.heap.get? b = some o → h'.get? b = some o) → Q (.ref (s.heap.objs.size + 1)) { s with heap := h' }) :
    wpAny (model prog w) A (call (.type "enumerate") [.ref t]) Q E s := by
  refine callType_new F.called_enumerate (by decide) (F.typeCall_enumerate_1 _) (F.newCall_enumerate_1 _) (fun obj => F.args_object_init_2 obj _) F.entry_enumerate_new (meets_enum1 (begins_tuple t items)) ⟨hL, ?_⟩
  have hz : (s.heap.push { cls := .type "tuple_iterator", data := .fields #[.ref t, .int 0 0] }).objs.size = s.heap.objs.size + 1 := Heap.size_push ..
  show _ ∧ _
  rw [hz]
  have he : IsEnum ((s.heap.push { cls := .type "tuple_iterator", data := .fields #[.ref t, .int 0 0] }).push { cls := .type "enumerate", data := .fields #[.none, .bool false, .ref s.heap.objs.size, rawInt 0, .none, .none] }) (s.heap.objs.size + 1) s.heap.objs.size 0 .none := by
    have := Heap.get?_push_size (s.heap.push { cls := .type "tuple_iterator", data := .fields #[.ref t, .int 0 0] }) (o := { cls := .type "enumerate", data := .fields #[.none, .bool false, .ref s.heap.objs.size, rawInt 0, .none, .none] }) rfl
    rw [hz] at this; exact this
  exact ⟨⟨_, he, rfl⟩, h _ he ⟨_, Heap.get?_push_of_some _ (Heap.get?_push_size _ rfl), rfl, rfl⟩ fun b o x => Heap.get?_push_of_some _ (Heap.get?_push_of_some _ x)⟩
end
/-- enumerate(xs), a list or a tuple -/
def iEnumS (K : PySem.W.Frag) (ta : TA) : TI := fun σ H R => ta σ H fun vs H1 => ∃ a, vs = [.ref a] ∧ (((∃ xs, SqL K H1 a xs) ∧ R (Ite K a) H1) ∨ ((∃ xs, SqT K H1 a xs) ∧ R (IteT K a) H1))
theorem pi_enumS {X : Cx} {e : Expr} {ta : TA} {p pos tpos : Pos} {elts : List Expr} {kk : Nat} (hg : Gl X "enumerate") (hm : X.mg "enumerate" = none) (ha : PA X [e] ta) (hs : starEach [e] X.env = [(false, eval e X.env)]) :
    PI X (.Tuple elts kk tpos) (.Call (.Name "enumerate" p) [e] [] pos) (iEnumS X.K ta) := by
  refine ⟨fun pins s σ H R I h => ?_⟩
  refine Call_ (ld_blt I hg hm boot_enumerate (PyProof.Rows.callWith_type1 (thn (ha.run pos pins s σ H _ I h) fun us s1 ⟨vs, H1, I1, r1, q1⟩ => ?_) hs rfl))
  obtain ⟨a, rfl, q⟩ := q1
  obtain ⟨u, rfl, ru⟩ := vals1 r1
  cases ru
  have fin : ∀ b, b = s1.heap.objs.size + 1 ∨ b = s1.heap.objs.size → FpOk X pins H1 b := fun b e' => by
    have hle : s1.heap.objs.size ≤ b := by rcases e' with z | z <;> omega
    exact I1.fpOk hle (I1.hok.fresh hle)
  rcases q with ⟨⟨xs, hq⟩, q⟩ | ⟨⟨xs, hq⟩, q⟩
  · obtain ⟨its, rv, p', hz⟩ := I1.list hq
    refine call_enumerate_list p'.isList fun h' he hit hsz hk => wpAny_pyIter_enum he ?_
    have I2 : Inv X pins σ H1 { s1 with heap := h' } := I1.kept (t' := s1.toks) hk
    exact ⟨s1.heap.objs.size + 1, [s1.heap.objs.size + 1, s1.heap.objs.size], _, _, H1, rfl, I2, turn_enum a (s1.heap.objs.size + 1) s1.heap.objs.size, ⟨⟨.none, he⟩, hit, Nat.succ_ne_self _⟩, fun b hb => fin b (by simpa using hb), q⟩
  · obtain ⟨its, rv, p', hz⟩ := I1.tuple hq
    have hlt : a < s1.heap.objs.size := by obtain ⟨_, q, _⟩ := p'; exact Heap.lt_size q
    refine call_enumT p' fun h' he hit hk => wpAny_pyIter_enum he ?_
    have I2 : Inv X pins σ H1 { s1 with heap := h' } := I1.kept (t' := s1.toks) hk
    exact ⟨s1.heap.objs.size + 1, [s1.heap.objs.size + 1, s1.heap.objs.size], _, _, H1, rfl, I2, turn_enumT a (s1.heap.objs.size + 1) s1.heap.objs.size, ⟨⟨.none, he⟩, hit, Nat.succ_ne_self _, Nat.ne_of_lt hlt, Nat.ne_of_lt (Nat.lt_succ_of_lt hlt)⟩, fun b hb => fin b (by simpa using hb), q⟩
theorem walk_enumT {K : PySem.W.Frag} {a : Addr} {xs : List V} : Walk (IteT K a) xs.length (fun H => SqT K H a xs) (YPair (fun i => some (.int (i : Nat))) (fun i => xs[i]?)) := by
  refine ⟨fun i _ hi q => ⟨xs, xs[i], q, by simp [hi]⟩, fun _ q => ⟨xs, q, Nat.le_refl _⟩, fun i H v H' _ q y => ?_⟩
  obtain ⟨T, x, g1, g2, g3, g4⟩ := y
  exact ⟨T, .int (i : Nat), x, g1, g2, g3, rfl, g4 xs q⟩
end Bp

namespace Bp
open PySem PySem.Spec PyProof.Rows L2
/-! ### d.items(), the keys tuples, the dict locked -/
/-- the key's own tuple and the value, in a new tuple -/
def Itit (d : Addr) (o : Obj) (kvs : List (List Key × V)) : It :=
  ⟨fun i H => H d = some (.frz o (.dT kvs)) ∧ i < kvs.length, fun i H x H' => ∃ (T q : Addr) (k : List Key) (v : V), kvs[i]? = some (k, v) ∧ x = .ref T ∧ H T = none ∧ H q = some (.tup (k.map kV)) ∧ H' = upd H T (.tup [.ref q, v]), fun i H => H d = some (.frz o (.dT kvs)) ∧ kvs.length ≤ i⟩
theorem frzT' {X : Cx} {pins : List (Addr × Obj)} {σ : L2.St} {H : Hp} {s : Shared} {d : Addr} {o : Obj} {kvs : List (List Key × V)} (I : Inv X pins σ H s) (h : H d = some (.frz o (.dT kvs))) :
    (d == sysModules) = false ∧ ∃ (es : Array DictEntry) (ep : Nat), DT.Raw s.heap d es ep ∧ o.data = .dict es ep ∧ es.size = kvs.length ∧
      ∀ (i : Nat) (k : List Key) (v : V), kvs[i]? = some (k, v) → ∃ (en : DictEntry) (q : Addr), es[i]? = some en ∧ en.key = .ref q ∧ H q = some (.tup (k.map kV)) ∧ RelV v en.val := by
  obtain ⟨hd, z, hs, xs, pr, o', es, ep, ho, hx, hdt, he, _⟩ := I.hok d _ h
  rw [hd] at ho
  cases ho
  refine ⟨hs, es, ep, ⟨o, hd, hx, hdt⟩, hdt, ?_, fun i k v e => ?_⟩
  · have l1 : es.size = xs.length := size_of_entries he
    have l2 : kvs.length = xs.length := Paired.length pr
    omega
  · obtain ⟨b, hb, e1, e2, e3⟩ := paired_get pr e
    have q := entry_at he i
    rw [hb] at q
    exact ⟨_, b.2.1, q, rfl, e2, e3⟩
theorem turn_itemsT {P : Program} {w : World} {K : PySem.W.Frag} {d : Addr} {o : Obj} {es : Array DictEntry} {ep : Nat} {kvs : List (List Key × V)} {elts : List Expr} {kk : Nat} {tpos : Pos} (it : Addr) (hod : o.data = .dict es ep) :
    Turn P w K (.Tuple elts kk tpos) (Itit d o kvs) [it] it (fun i h => ∃ ok ov, IsItemIter h it d i es.size ep ok ov) where
  mem := by simp
  obj := fun i h st b hb => by
    have e : b = it := by simpa using hb
    subst e
    obtain ⟨ok, ov, e⟩ := st
    exact ⟨_, e, fun v z => nomatch z⟩
  keep := fun i h h' st k => let ⟨ok, ov, e⟩ := st; ⟨ok, ov, k it (by simp) _ e⟩
  item := by
    intro X hP hw hK hc i pins s σ H E I hf st hg
    subst hP hw hK
    obtain ⟨hd, hi⟩ := hg
    obtain ⟨hs, es', ep', raw, hdt, hsz, ent⟩ := frzT' I hd
    obtain ⟨rfl, rfl⟩ := dict_ep hod hdt
    obtain ⟨⟨k, v⟩, hkv⟩ : ∃ p, kvs[i]? = some p := ⟨kvs[i], List.getElem?_eq_getElem hi⟩
    obtain ⟨en, q, hen, hkey, hq, hval⟩ := ent i k v hkv
    obtain ⟨ok, ov, he⟩ := st
    have hlt : it < s.heap.objs.size := Heap.lt_size he
    have hie : i < es'.size := by omega
    have een : es'[i] = en := by
      have := Array.getElem?_eq_getElem hie
      rw [this] at hen
      exact Option.some.inj hen
    refine DT.nextI he raw hie fun h' ho hT hz hk => ?_
    rw [een, hkey] at hT ho
    refine ⟨_, rfl, wpAny_letOwnedTupleGo_items (s := { s with heap := h' }) ho fun h'' he' sb => ?_⟩
    have hT2 : h''.get? s.heap.objs.size = some { cls := .type "tuple", data := .seq #[.ref q, en.val] } := (sb.2 _ (Nat.ne_of_gt hlt)).trans hT
    have new : ObjOk X.prog X.w (upd H s.heap.objs.size (.tup [.ref q, v])) h'' s.heap.objs.size (.tup [.ref q, v]) :=
      ⟨by show 2 ≤ sizeLine; decide, [.ref q, en.val], .cons rfl (.cons hval .nil), ⟨_, hT2, rfl, _, rfl⟩⟩
    have I1 : Inv X pins σ (upd H s.heap.objs.size (.tup [.ref q, v])) { s with heap := h'' } :=
      I.turnedNew (t' := s.toks) (ch := [it]) (fun b ob hb e => (sb.2 b (by simpa using hb)).trans (hk b ob (by simpa using hb) e)) hf (Nat.le_refl _) new
    refine ⟨.ref s.heap.objs.size, _, I1, rfl, ⟨_, q, k, v, hkv, rfl, I.hok.fresh (Nat.le_refl _), hq, rfl⟩, ⟨_, _, he'⟩, fun b hb => ?_⟩
    have e : b = it := by simpa using hb
    rw [e, upd_ne (Nat.ne_of_lt hlt)]
    exact (hf it (by simp)).1
  done := by
    intro X hP hw hK hc i pins s σ H E I hf st hg
    subst hP hw hK
    obtain ⟨hd, hi⟩ := hg
    obtain ⟨f0, f1, f2, f3, f4, f5⟩ := hf it (by simp)
    obtain ⟨hs, es', ep', raw, hdt, hsz, ent⟩ := frzT' I hd
    obtain ⟨rfl, rfl⟩ := dict_ep hod hdt
    obtain ⟨ok, ov, he⟩ := st
    exact DT.endI (I.ok.hd hc) he raw (by omega) fun h' eb => ⟨rfl, I.turned (t' := s.toks) (fun b ob hb e => eb b ob hb e) f0 f1 f3 f4 f5⟩
  self := fun A i s Q E st h => let ⟨_, _, e⟩ := st; PySem.W.kcp_self e h
def iItemsT (td : TE) : TI := fun σ H R => td σ H fun x H1 => ∃ d o kvs, x = .ref d ∧ H1 d = some (.frz o (.dT kvs)) ∧ R (Itit d o kvs) H1
theorem pi_itemsT {X : Cx} {e : Expr} {td : TE} {apos cpos : Pos} {elts : List Expr} {kk : Nat} {tpos : Pos} (he : PE X e td) (hbase : attributeBase e "items" X.env (eval e X.env) = eval e X.env) (hline : (apos.endLine == cpos.line) = true) :
    PI X (.Tuple elts kk tpos) (.Call (.Attribute e "items" apos) [] [] cpos) (iItemsT td) := by
  refine ⟨fun pins s σ H R I h => ?_⟩
  refine wpAny_Call_method (T := "dict") (id := "dict.items") hbase rfl hline F.plainAttrs_dict F.slot_dict_items F.type_dict_items (thn (he.run pins s σ H _ I h) fun u s1 ⟨x, H1, I1, rx, d, o, kvs, ex, hd, q⟩ => ?_)
  subst ex
  obtain rfl : u = Value.ref d := rx
  obtain ⟨hs, es, ep, raw, hdt, hsz, ent⟩ := frzT' I1 hd
  have nd : ∀ b, Value.ref d = .ref b → ∃ ob, s1.heap.get? b = some ob ∧ ob.dict = none := fun b z => by
    cases z
    obtain ⟨ob, g1, g2, _⟩ := raw
    exact ⟨ob, g1, g2.2.1⟩
  refine ⟨raw.typeIs, nd, ?_⟩
  have I2 : Inv X pins σ H1 { s1 with heap := s1.heap.push { cls := .type "dict_items", data := .fields #[.ref d] } } := I1.kept (t' := s1.toks) fun b ob q => Heap.get?_push_of_some _ q
  have fin : wpAny (model X.prog X.w) X.A (pyIter (.ref s1.heap.objs.size)) (PIE X pins σ (.Tuple elts kk tpos) R) X.xe { s1 with heap := s1.heap.push { cls := .type "dict_items", data := .fields #[.ref d] } } := by
    refine DT.iterI (d := d) ⟨_, Heap.get?_push_size _ rfl, rfl, rfl⟩ (raw.push _) (pi_one (tk := s1.toks) I2 _ (turn_itemsT _ hdt) ⟨.none, .none, ?_⟩ q)
    exact Heap.get?_push_size _ rfl
  show wpAny _ _ (callWith cpos (.builtin "dict.items") [.ref d] [] []) _ X.xe s1
  exact method_meetsIn F.slot_dict_items F.entry_dict_items rfl (PySem.evalArgs_none ⟨rfl, raw.typeIs, F.args_dict_items_1 _, _, DT.meetsItems (es := es) (ep := ep) hs, ⟨raw, fin⟩⟩)
end Bp

namespace Bp
open PySem L2
/-! ### targets -/
theorem PG.imp {X : Cx} {e : Expr} {t t' : TG} (h : PG X e t) (k : ∀ v σ H Q, t' v σ H Q → t v σ H Q) : PG X e t' := ⟨fun pins s σ H v u Q I r q => h.run pins s σ H v u Q I r (k v σ H Q q)⟩
theorem PGs.imp {X : Cx} {e : List Expr} {t t' : TGs} (h : PGs X e t) (k : ∀ v σ H Q, t' v σ H Q → t v σ H Q) : PGs X e t' := ⟨fun pins s σ H v u Q I r q => h.run pins s σ H v u Q I r (k v σ H Q q)⟩
def Tg.slots : Tg → List Nat
  | .n i => [i]
  | .t l => l.slots
  | .nil => []
  | .cons a b => a.slots ++ b.slots
/-- only these slots are others -/
def Ch (vs : List Nat) (σ σ' : St) : Prop := σ'.length = σ.length ∧ ∀ i, i ∉ vs → σ'[i]? = σ[i]?
theorem Ch.refl {vs : List Nat} {σ : St} : Ch vs σ σ := ⟨rfl, fun _ _ => rfl⟩
theorem Ch.trans {vs us : List Nat} {σ σ1 σ2 : St} (a : Ch vs σ σ1) (b : Ch us σ1 σ2) : Ch (vs ++ us) σ σ2 := ⟨b.1.trans a.1, fun i hi => by
  simp only [List.mem_append, not_or] at hi
  exact (b.2 i hi.2).trans (a.2 i hi.1)⟩
theorem Ch.sub {vs us : List Nat} {σ σ1 : St} (a : Ch vs σ σ1) (h : ∀ i ∈ vs, i ∈ us) : Ch us σ σ1 := ⟨a.1, fun i hi => a.2 i fun z => hi (h i z)⟩
theorem wipe_get {σ : St} {i : Nat} : ∀ {vs : List Nat}, (wipe σ vs)[i]? = if i ∈ vs ∧ i < σ.length then some none else σ[i]?
  | [] => by simp [wipe]
  | v :: vs => by
    unfold wipe
    by_cases e : v = i
    · subst e
      by_cases hl : v < σ.length
      · rw [List.getElem?_set_self (by rw [wipe_length]; exact hl)]
        simp [hl]
      · rw [List.getElem?_eq_none (by rw [List.length_set, wipe_length]; omega)]
        simp [hl]
    · rw [List.getElem?_set_ne e, wipe_get]
      simp [Ne.symm e]
theorem Ch.wipe {vs : List Nat} {σ σ' : St} (h : Ch vs σ σ') : L2.wipe σ' vs = L2.wipe σ vs := by
  refine List.ext_getElem? fun i => ?_
  rw [wipe_get, wipe_get, h.1]
  by_cases hi : i ∈ vs
  · by_cases hl : i < σ.length
    · rw [if_pos ⟨hi, hl⟩, if_pos ⟨hi, hl⟩]
    · rw [if_neg (fun z => hl z.2), if_neg (fun z => hl z.2)]
      rw [List.getElem?_eq_none (by rw [h.1]; omega), List.getElem?_eq_none (by omega)]
  · rw [if_neg (fun z => hi z.1), if_neg (fun z => hi z.1)]
    exact h.2 i hi
def tG (K : PySem.W.Frag) (B : Fm) (tg : Tg) : TG := fun v σ H Q => ∃ I M r S d r', Rel K B I M S H ∧ Sl K I M r σ ∧ Rp K I M v d ∧ setT tg d r = some r' ∧ ∀ σ', Sl K I M r' σ' → Ch tg.slots σ σ' → Q σ' H
def tGs (K : PySem.W.Frag) (B : Fm) (tg : Tg) : TGs := fun vs σ H Q => ∃ I M r S ds r', Rel K B I M S H ∧ Sl K I M r σ ∧ RpA K I M vs ds ∧ setT.setTs tg ds r = some r' ∧ ∀ σ', Sl K I M r' σ' → Ch tg.slots σ σ' → Q σ' H
def okStore (C : Cg) (i : Nat) (x : Str) : Bool := decide (C.N[i]? = some x) && (match C.sc.names.lookup x with
  | some .local => true
  | some .cell => C.fn x
  | _ => false)
mutual
def chkG (C : Cg) : Tg → Expr → Bool
  | .n i, .Name x _ => okStore C i x
  | .t l, .Tuple es _ _ => chkGs C l es
  | _, _ => false
def chkGs (C : Cg) : Tg → List Expr → Bool
  | .nil, [] => true
  | .cons a b, e :: es => chkG C a e && chkGs C b es
  | _, _ => false
end
theorem Sl.set {K : PySem.W.Frag} {I : Hp} {M : List Addr} {r : Rho} {σ : St} {i : Nat} {d : D} {v : V} (h : Sl K I M r σ) (hv : Rp K I M v d) : Sl K I M (r.set i (some d)) (σ.set i (some v)) := by
  refine ⟨by simp [h.1], fun j e hj => ?_⟩
  by_cases hi : i = j
  · subst hi
    by_cases hl : i < r.length
    · rw [List.getElem?_set_self hl] at hj
      cases hj
      exact ⟨v, List.getElem?_set_self (by rw [← h.1]; exact hl), hv⟩
    · rw [List.getElem?_eq_none (by rw [List.length_set]; omega)] at hj
      cases hj
  · rw [List.getElem?_set_ne hi] at hj ⊢
    exact h.2 j e hj
theorem chkG_star {C : Cg} {tg : Tg} {e : Expr} (h : chkG C tg e = true) (es : List Expr) (env : Env) : assignEach (e :: es) env = (false, assign e env) :: assignEach es env := by
  cases tg <;> cases e <;> first | rfl | (simp [chkG] at h)
theorem chkGs_star {C : Cg} : ∀ {tg : Tg} {es : List Expr} {env : Env}, chkGs C tg es = true → (assignEach es env).findIdx? (·.1) = none
  | .nil, [], _, _ => rfl
  | .cons a b, e :: es, env, h => by
    simp only [chkGs, Bool.and_eq_true] at h
    rw [chkG_star h.1, List.findIdx?_cons]
    simp [chkGs_star (env := env) h.2]
  | .nil, _ :: _, _, h => by simp [chkGs] at h
  | .cons _ _, [], _, h => by simp [chkGs] at h
  | .n _, _, _, h => by simp [chkGs] at h
  | .t _, _, _, h => by simp [chkGs] at h
theorem setTs_len : ∀ {tg : Tg} {ds : List D} {r r' : Rho} {C : Cg} {es : List Expr}, setT.setTs tg ds r = some r' → chkGs C tg es = true → ds.length = es.length
  | .nil, [], _, _, _, [], _, _ => rfl
  | .nil, [], _, _, _, _ :: _, _, h => by simp [chkGs] at h
  | .nil, _ :: _, _, _, _, _, h, _ => by simp [setT.setTs] at h
  | .cons a b, [], _, _, _, _, h, _ => by simp [setT.setTs] at h
  | .cons a b, d :: ds, r, r', C, [], _, h => by simp [chkGs] at h
  | .cons a b, d :: ds, r, r', C, e :: es, h, k => by
    simp only [chkGs, Bool.and_eq_true] at k
    simp only [setT.setTs] at h
    cases e1 : setT a d r with
    | none => rw [e1] at h; cases h
    | some r1 =>
      rw [e1] at h
      have h' : setT.setTs b ds r1 = some r' := h
      simp [setTs_len h' k.2]
  | .n _, _, _, _, _, _, h, _ => by simp [setT.setTs] at h
  | .t _, _, _, _, _, _, h, _ => by simp [setT.setTs] at h
section
variable {C : Cg} {X : Cx} {B : Fm}
theorem assignEach_len (env : Env) : ∀ es : List Expr, (assignEach es env).length = es.length
  | [] => rfl
  | e :: es => by
    have ih := assignEach_len env es
    cases e <;> simp [assignEach, ih]
mutual
theorem pg_ok (c : Ctx C X) : ∀ {tg : Tg} {e : Expr}, chkG C tg e = true → PG X e (tG X.K B tg)
  | .n i, .Name x pos, h => by
    simp only [chkG, okStore, Bool.and_eq_true, decide_eq_true_eq] at h
    obtain ⟨h1, h2⟩ := h
    have hl : Loc X.env.scope x ∧ (X.fn x = true ∨ X.env.scope.names.lookup x = some .local) := by
      rw [c.sc]
      split at h2
      · rename_i hk; exact ⟨.inl hk, .inr hk⟩
      · rename_i hk; exact ⟨.inr hk, .inl (c.fn x h2)⟩
      · cases h2
    refine PG.imp (pg_name (i := i) c.nd (by rw [c.hN]; exact h1) hl.1 hl.2) ?_
    rintro v σ H Q ⟨I, M, r, S, d, r', R, sl, rp, hs, k⟩
    simp only [setT] at hs
    split at hs
    · cases hs
      refine k _ (sl.set rp) ⟨by simp, fun j hj => ?_⟩
      simp only [Tg.slots, List.mem_singleton] at hj
      exact List.getElem?_set_ne (Ne.symm hj)
    · cases hs
  | .t l, .Tuple es kk pos, h => by
    have h' : chkGs C l es = true := h
    refine PG.imp (pg_tup (n := es.length) c.calm (pgs_ok c h') (assignEach_len _ _) (chkGs_star h')) ?_
    rintro v σ H Q ⟨I, M, r, S, d, r', R, sl, rp, hs, k⟩
    cases rp <;> first | (simp only [setT, reduceCtorEq] at hs; done) | skip
    rename_i a xs ds h1 h2
    have hs' : setT.setTs l ds r = some r' := hs
    exact ⟨a, xs, rfl, SqT.of (R.pl _ _ h1 rfl), by rw [h2.length]; exact setTs_len hs' h', I, M, r, S, ds, r', R, sl, h2, hs', k⟩
theorem pgs_ok (c : Ctx C X) : ∀ {tg : Tg} {es : List Expr}, chkGs C tg es = true → PGs X es (tGs X.K B tg)
  | .nil, [], _ => by
    refine PGs.imp pgs_nil ?_
    rintro vs σ H Q ⟨I, M, r, S, ds, r', R, sl, rp, hs, k⟩
    cases ds with
    | nil =>
      cases rp
      cases hs
      exact ⟨rfl, k σ sl Ch.refl⟩
    | cons d ds => simp [setT.setTs] at hs
  | .cons a b, e :: es, h => by
    simp only [chkGs, Bool.and_eq_true] at h
    refine PGs.imp (pgs_cons (pg_ok c h.1) (pgs_ok c h.2) (by rw [chkG_star h.1]; rfl)) ?_
    rintro vs σ H Q ⟨I, M, r, S, ds, r', R, sl, rp, hs, k⟩
    cases ds with
    | nil => simp [setT.setTs] at hs
    | cons d ds =>
      cases rp with
      | cons rp1 rp2 =>
        rename_i v vs
        simp only [setT.setTs] at hs
        cases e1 : setT a d r with
        | none => rw [e1] at hs; cases hs
        | some r1 =>
          rw [e1] at hs
          refine ⟨v, vs, rfl, I, M, r, S, d, r1, R, sl, rp1, e1, fun σ1 sl1 ch1 => ⟨I, M, r1, S, ds, r', R, sl1, rp2, hs, fun σ2 sl2 ch2 => k σ2 sl2 ?_⟩⟩
          exact ch1.trans ch2
end
end
/-! ### what is walked -/
/-- at a turn that gives d: it stands there, or a new tuple is made -/
def Yd (K : PySem.W.Frag) (I : Hp) (M : List Addr) (d : D) (H : Hp) (x : V) (H' : Hp) : Prop := (H' = H ∧ Rp K I M x d) ∨ (∃ T xs es, d = .tup es ∧ x = .ref T ∧ H T = none ∧ H' = upd H T (.tup xs) ∧ RpA K I M xs es) ∨
  (H' = H ∧ ∃ (q : Addr) (k : List Key), d = .tup (k.map keyD) ∧ x = .ref q ∧ H q = some (.tup (k.map kV)) ∧ k.all kOk = true) ∨
  ∃ (T q : Addr) (k : List Key) (v : V) (w : D), d = .tup [.tup (k.map keyD), w] ∧ x = .ref T ∧ H T = none ∧ H q = some (.tup (k.map kV)) ∧ k.all kOk = true ∧ H' = upd H T (.tup [.ref q, v]) ∧ Rp K I M v w
theorem rp_key {K : PySem.W.Frag} {I : Hp} {M : List Addr} {k : Key} (h : kOk k = true) : Rp K I M (kV k) (keyD k) := by
  cases k with
  | inl i => exact .int i
  | inr x => exact .str h
theorem rp_keys {K : PySem.W.Frag} {I : Hp} {M : List Addr} : ∀ {k : List Key}, k.all kOk = true → RpA K I M (k.map kV) (k.map keyD)
  | [], _ => .nil
  | k :: ks, h => by
    rw [List.all_cons, Bool.and_eq_true] at h
    exact .cons (rp_key h.1) (rp_keys h.2)
/-- J gives these, as long as what does not change stands -/
def WalkD (K : PySem.W.Frag) (B : Fm) (I : Hp) (M : List Addr) (ds : List D) (J : It) : Prop := ∃ (G : Hp → Prop) (Y : Nat → Hp → V → Hp → Prop), Walk J ds.length G Y ∧ (∀ I' M' S H, Le I M I' M' → Rel K B I' M' S H → G H) ∧
  ∀ (i : Nat) d H x H', ds[i]? = some d → Y i H x H' → Yd K I M d H x H'
def tI (C : Cg) (K : PySem.W.Frag) (B : Fm) (W : WN) (t : T) : TI := fun σ H Z => ∃ I M r S, Rel K B I M S H ∧ Sl K I M r σ ∧ (match evI C.E t r S with
  | .ok ds S' => ∀ I' M' H' J, Le I M I' M' → Rel K B I' M' S' H' → WalkD K B I' M' ds J → Z J H'
  | .ex c S' => exP K B I M S' (W c σ)
  | .no => False)
theorem PI.imp {X : Cx} {tg e : Expr} {t t' : TI} (h : PI X tg e t) (k : ∀ σ H Z, t' σ H Z → t σ H Z) : PI X tg e t' := ⟨fun pins s σ H Z I q => h.run pins s σ H Z I (k σ H Z q)⟩
def iSeq (K : PySem.W.Frag) (tl : TE) : TI := fun σ H R => tl σ H fun x H1 => ∃ a, x = .ref a ∧ (((∃ xs, SqL K H1 a xs) ∧ R (Itl K a) H1) ∨ ((∃ xs, SqT K H1 a xs) ∧ R (Itt K a) H1))
theorem pi_seq {X : Cx} {tg l : Expr} {tl : TE} (hl : PE X l tl) : PI X tg l (iSeq X.K tl) := by
  constructor
  intro pins s σ H R I h
  refine thn (hl.run pins s σ H _ I h) ?_
  rintro v s1 ⟨x, H1, I1, r1, a, rfl, q⟩
  cases r1
  rcases q with ⟨⟨xs, hq⟩, q⟩ | ⟨⟨xs, hq⟩, q⟩
  · obtain ⟨its, rv, p, hz⟩ := I1.list hq
    exact wpAny_pyIter_list p.isList (pi_one (tk := s1.toks) I1 _ (turn_list a _) ⟨_, Heap.get?_push_size _ rfl, rfl, rfl⟩ q)
  · obtain ⟨its, rv, p, hz⟩ := I1.tuple hq
    exact wpAny_pyIter_tuple p (pi_one (tk := s1.toks) I1 _ (turn_tuple a _) ⟨_, Heap.get?_push_size _ rfl, rfl, rfl⟩ q)
def splitI1 (C : Cg) : I1 → Expr → Option Expr
  | .seq, e => if nset e = true then some e else none
  | .range1, e => call1 C "range" e
  | .enum, e => call1 C "enumerate" e
  | .chars, e => if nset e = true then some e else none
  | _, _ => none
def splitI2 (C : Cg) : I2 → Expr → Option (Expr × Expr)
  | .range2, .Call (.Name f _) [x, y] [] _ => if f = ("range" : Str) ∧ glb C "range" = true ∧ ns x = true ∧ ns y = true then some (x, y) else none
  | .zip, .Call (.Name f _) [x, y] [] _ => if f = ("zip" : Str) ∧ glb C "zip" = true ∧ ns x = true ∧ ns y = true then some (x, y) else none
  | _, _ => none
def rI1 (K : PySem.W.Frag) (B : Fm) (f : D → Option (List D)) : V → Hp → (It → Hp → Prop) → Prop := fun x H Z => ∃ I M S d ds, Rel K B I M S H ∧ Rp K I M x d ∧ (∀ n, d ≠ .loc n) ∧ f d = some ds ∧ ∀ J, WalkD K B I M ds J → Z J H
section
variable {C : Cg} {X : Cx} {B : Fm} {W : WN}
theorem rng_get (n : Int) (i : Nat) (d : D) (h : (rangeD n)[i]? = some d) : d = .int (i : Nat) := by
  unfold rangeD at h
  rw [List.getElem?_map] at h
  cases e : (List.range n.toNat)[i]? with
  | none => rw [e] at h; cases h
  | some j =>
    rw [e] at h
    obtain ⟨h1, h2⟩ := List.getElem?_eq_some_iff.mp e
    rw [List.getElem_range] at h2
    subst h2
    exact (Option.some.inj h).symm
theorem enumD_len : ∀ (xs : List D) (n : Nat), (enumD xs n).length = xs.length
  | [], _ => rfl
  | x :: xs, n => by simp [enumD, enumD_len xs]
theorem enumD_get : ∀ {xs : List D} {n i : Nat} {d : D}, (enumD xs n)[i]? = some d → ∃ x, xs[i]? = some x ∧ d = .tup [.int ((n + i : Nat) : Int), x]
  | [], n, i, d, h => by simp [enumD] at h
  | x :: xs, n, 0, d, h => by
    simp [enumD] at h
    exact ⟨x, rfl, h.symm⟩
  | x :: xs, n, i + 1, d, h => by
    simp only [enumD, List.getElem?_cons_succ] at h
    obtain ⟨a, h1, h2⟩ := enumD_get h
    exact ⟨a, by simpa using h1, by rw [h2, show n + 1 + i = n + (i + 1) by omega]⟩
theorem enum_yd {K : PySem.W.Frag} {I : Hp} {M : List Addr} {vs : List V} {xs : List D} (r1 : RpA K I M vs xs) : ∀ (i : Nat) d H x H', (enumD xs 0)[i]? = some d → YPair (fun i => some (.int (i : Nat))) (fun i => vs[i]?) i H x H' → Yd K I M d H x H' := by
  rintro i d H x H' hd ⟨T, a, b, rfl, hT, rfl, ha, hb⟩
  obtain ⟨q, h2, rfl⟩ := enumD_get hd
  obtain ⟨q', e2, rq⟩ := r1.getV hb
  rw [h2] at e2; cases e2
  cases ha
  rw [Nat.zero_add]
  exact .inr (.inl ⟨T, _, _, rfl, rfl, hT, rfl, .cons (.int _) (.cons rq .nil)⟩)
theorem si1 (c : Ctx C X) {k : I1} {tg e x : Expr} {tx : TE} (h : splitI1 C k e = some x) (hp : k = .enum → ∃ elts kk tp, tg = .Tuple elts kk tp) (hx : PE X x tx) : PI X tg e (fun σ H Z => tx σ H fun v H1 => rI1 X.K B (evI1 k) v H1 Z) := by
  cases k with
  | seq =>
    unfold splitI1 at h
    simp only at h
    split at h
    · cases h
      refine PI.imp (pi_seq (Bp.PE.mo hx)) ?_
      intro σ H Z q
      refine ⟨_, q, ?_⟩
      rintro v H ⟨I, M, S, d, ds, R, rp, nl, e, k⟩
      change seqOf d = some ds at e
      cases rp <;> simp only [seqOf, reduceCtorEq] at e
      · rename_i a xs es h1 h2
        cases e
        refine ⟨a, rfl, .inr ⟨⟨xs, SqT.of (R.pl _ _ h1 rfl)⟩, k _ ⟨_, _, by rw [← h2.length]; exact walk_tup (xs := xs), fun I' M' S' H' le R' => SqT.of (R'.pl _ _ (le.i _ _ h1) rfl), ?_⟩⟩⟩
        rintro i d H x H' hd ⟨rfl, hx⟩
        obtain ⟨d', hd', rp⟩ := h2.getV hx
        rw [hd] at hd'; cases hd'
        exact .inl ⟨rfl, rp⟩
      · rename_i a xs es h1 h2
        cases e
        refine ⟨a, rfl, .inl ⟨⟨xs, SqL.of (R.pl _ _ h1 rfl)⟩, k _ ⟨_, _, by rw [← h2.length]; exact walk_list (xs := xs), fun I' M' S' H' le R' => SqL.of (R'.pl _ _ (le.i _ _ h1) rfl), ?_⟩⟩⟩
        rintro i d H x H' hd ⟨rfl, hx⟩
        obtain ⟨d', hd', rp⟩ := h2.getV hx
        rw [hd] at hd'; cases hd'
        exact .inl ⟨rfl, rp⟩
    · cases h
  | chars =>
    unfold splitI1 at h
    simp only at h
    split at h
    · cases h
      refine PI.imp (pi_str (Bp.PE.mo hx)) ?_
      intro σ H Z q
      refine ⟨_, q, ?_⟩
      rintro v H ⟨I, M, S, d, ds, R, rp, nl, e, k⟩
      cases rp <;> simp only [evI1, reduceCtorEq] at e
      rename_i s hs
      cases e
      refine ⟨s, rfl, k _ ⟨_, _, by rw [List.length_map, Array.length_toList]; exact walk_str, fun _ _ _ _ _ _ => trivial, ?_⟩⟩
      rintro i d H x H' hd ⟨rfl, c, hc, rfl⟩
      rw [List.getElem?_map, Array.getElem?_toList, hc] at hd
      cases hd
      exact .inl ⟨rfl, .str (sOk_one hs (by rw [← Array.getElem?_toList] at hc; exact List.mem_iff_getElem?.mpr ⟨i, hc⟩))⟩
    · cases h
  | range1 =>
    obtain ⟨⟨p, pos, rfl⟩, hg, hs⟩ := call1_eq (C := C) (nm := "range") (e := e) (x := x) h
    refine PI.imp (pi_range1 (c.gl hg) (c.blt _ (by decide +kernel)) (pa_cons (Bp.PE.mo hx) pa_nil (ns_star hs _ _)) (ns_star hs _ _)) ?_
    intro σ H Z q
    refine ⟨_, q, ?_⟩
    rintro v H ⟨I, M, S, d, ds, R, rp, nl, e, k⟩
    cases rp <;> simp only [evI1, reduceCtorEq] at e
    rename_i n
    split at e
    · rename_i hn
      cases e
      refine ⟨n, rfl, (smallI_ok hn).1, (smallI_ok hn).2, k _ ⟨_, _, by unfold rangeD; rw [List.length_map, List.length_range]; exact walk_range, fun _ _ _ _ _ _ => trivial, ?_⟩⟩
      rintro i d H x H' hd ⟨rfl, rfl⟩
      rw [rng_get n i d hd]
      show Yd _ _ _ _ _ (V.int (0 + (i : Nat))) _
      rw [Int.zero_add]
      exact .inl ⟨rfl, .int _⟩
    · cases e
  | enum =>
    obtain ⟨⟨p, pos, rfl⟩, hg, hs⟩ := call1_eq (C := C) (nm := "enumerate") (e := e) (x := x) h
    obtain ⟨elts, kk, tp, rfl⟩ := hp rfl
    refine PI.imp (pi_enumS (c.gl hg) (c.blt _ (by decide +kernel)) (pa_cons (Bp.PE.mo hx) pa_nil (ns_star hs _ _)) (ns_star hs _ _)) ?_
    intro σ H Z q
    refine ⟨_, q, ?_⟩
    rintro v H ⟨I, M, S, d, ds, R, rp, nl, e, k⟩
    change (seqOf d).map (fun xs => enumD xs 0) = some ds at e
    cases rp <;> simp only [seqOf, Option.map_none, Option.map_some, reduceCtorEq] at e
    · rename_i a xs es h1 h2
      cases e
      exact ⟨a, rfl, .inr ⟨⟨xs, SqT.of (R.pl _ _ h1 rfl)⟩, k _ ⟨_, _, by rw [enumD_len, ← h2.length]; exact walk_enumT (xs := xs), fun I' M' S' H' le R' => SqT.of (R'.pl _ _ (le.i _ _ h1) rfl), enum_yd h2⟩⟩⟩
    · rename_i a xs es h1 h2
      cases e
      exact ⟨a, rfl, .inl ⟨⟨xs, SqL.of (R.pl _ _ h1 rfl)⟩, k _ ⟨_, _, by rw [enumD_len, ← h2.length]; exact walk_enum (xs := xs), fun I' M' S' H' le R' => SqL.of (R'.pl _ _ (le.i _ _ h1) rfl), enum_yd h2⟩⟩⟩
  | keys => cases h
  | items => cases h
end
end Bp

namespace Bp
open PySem L2
/-! ### the checker -/
def Cg.blk (C : Cg) (scope : Scope) : Cg := { C with sc := relS scope C.sc, fn := fun x => scope.names.lookup x == some .cell, told := false }
/-- within a lambda -/
def Cg.lam (C : Cg) (scope : Scope) : Cg := { C with sc := scope, fn := fun _ => false, told := false, lv := C.lv - 2 }
def ownOf (C : Cg) (vs : List Nat) : List (Str × Nat) := vs.map fun i => (C.N.getD i "", i)
def chkK : D → Const → Bool
  | .non, .none => true
  | .bl a, .bool b => a == b
  | .int a, .int b => decide (a = b)
  | .str a, .str b => decide (a = b) && sOk a
  | _, _ => false
def nbase : Expr → Bool
  | .Call (.Name _ _) [] [] _ => false
  | _ => true
def pairs1 : I1 → Bool
  | .enum => true
  | .items => true
  | _ => false
def pairs2 : I2 → Bool
  | .zip => true
  | _ => false
def isTupE : Expr → Bool
  | .Tuple _ _ _ => true
  | _ => false
/-- the text of such a walk -/
def chkD (C : Cg) (k : I1) (i : Nat) (tg e : Expr) : Bool := match k with
  | .items => (match e with
    | .Call (.Attribute (.Name x _) m apos) [] [] cpos => okSlot C i x && decide (m = ("items" : Str)) && (apos.endLine == cpos.line) && isTupE tg
    | _ => false)
  | .keys => (match e with
    | .Name x _ => okSlot C i x
    | _ => false)
  | _ => false
/-- may stand as a test -/
def tst : T → Bool
  | .ite _ _ _ => false
  | .frz _ => false
  | .im _ => false
  | .mk _ => false
  | .told _ => false
  | .bad => false
  | .mkd _ _ => false
  | .imd _ _ _ => false
  | .and a b => tst a && tst b
  | .or a b => tst a && tst b
  | .not a => tst a
  | _ => true
mutual
def chkE (C : Cg) (t : T) (e : Expr) : Bool := match t with
  | .v i => (match e with | .Name x _ => okSlot C i x | _ => false)
  | .k d => (match e with | .Constant c _ _ => chkK d c | _ => false)
  | .g i => (match e with | .Name x _ => decide (C.cons[i]? = some x) && glb C x && okName x | _ => false)
  | .o1 o a => (match split1 C o e with | some x => chkE C a x | none => false)
  | .o2 o a b => (match split2 o e with | some (x, y) => chkE C a x && chkE C b y | none => false)
  | .sl a lo hi => (match e with
    | .Subscript x (.Slice l h none _) _ => chkE C a x && (match l with | none => lo.isNil | some y => !lo.isNil && chkE C lo y) && (match h with | none => hi.isNil | some y => !hi.isNil && chkE C hi y)
    | _ => false)
  | .and a b => (match e with
    | .BoolOp .And (x :: y :: rest) p => chkE C a x && (match rest with | [] => chkE C b y | z :: zs => chkE C b (.BoolOp .And (y :: z :: zs) p))
    | _ => false)
  | .or a b => (match e with
    | .BoolOp .Or (x :: y :: rest) p => chkE C a x && (match rest with | [] => chkE C b y | z :: zs => chkE C b (.BoolOp .Or (y :: z :: zs) p))
    | _ => false)
  | .not a => (match e with | .UnaryOp .Not x _ => chkE C a x | _ => false)
  | .ite c a b => (match e with | .IfExp x y z _ => tst c && chkE C c x && chkE C a y && chkE C b z | _ => false)
  | .ch o p a b c => (match e with
    | .Compare x [op, op'] [y, z] _ => decide (cmpOp o = some op) && decide (cmpOp p = some op') && nset y && nset z && chkE C a x && chkE C b y && chkE C c z
    | _ => false)
  | .tup as => (match e with | .Tuple es _ _ => chkA C as es | _ => false)
  | .im x => chkX C x e
  | .mk x => chkX C x e
  | .call f as => (match e with
    | .Call (.Name x _) (e :: es) [] _ => decide (C.fns[f]? = some x) && glb C x && okName x && chkA C as (e :: es)
    | _ => false)
  | .frz a => chkE C a e
  | .bad => true
  | .dget a k x => (match e with
    | .Call (.Attribute (.Name y p) m apos) [e1] [] cpos => x.isNil && decide (m = ("get" : Str)) && ns e1 && (apos.endLine == cpos.line) && chkE C a (.Name y p) && chkE C k e1
    | .Call (.Attribute (.Name y p) m apos) [e1, e2] [] cpos => !x.isNil && decide (m = ("get" : Str)) && ns e1 && ns e2 && (apos.endLine == cpos.line) && chkE C a (.Name y p) && chkE C k e1 && chkE C x e2
    | _ => false)
  | .setd i k v => (match e with
    | .Call (.Attribute (.Name x _) m apos) [e1, e2] [] cpos => okSlot C i x && decide (m = ("setdefault" : Str)) && ns e1 && ns e2 && (apos.endLine == cpos.line) && chkE C k e1 && chkE C v e2
    | _ => false)
  | .imd tk k v => (match e with
    | .Dict [some ke] [ve] _ => tk && (chkE C k ke && chkE C v ve)
    | _ => false)
  | .mkd tk as => (match e with
    | .Dict [] [] _ => as.isNil
    | _ => false)
  | .told t => (match e with
    | .Call (.Name x _) [.Lambda ⟨[], [], none, [], [], none, []⟩ body scope _] [] _ => C.told && decide (x = ("_law_told" : Str)) && glb C x && LamX.lamSB C.sc scope && chkE (C.lam scope) t body
    | _ => false)
  | .extd i t => (match e with
    | .Call (.Attribute (.Name x _) m apos) [y] [] cpos => okSlot C i x && decide (m = ("extend" : Str)) && ns y && (apos.endLine == cpos.line) && chkE C t y
    | _ => false)
  | .app i t => (match e with
    | .Call (.Attribute (.Name x _) m apos) [y] [] cpos => okSlot C i x && decide (m = ("append" : Str)) && ns y && (apos.endLine == cpos.line) && chkE C t y
    | _ => false)
  | _ => false
def chkA (C : Cg) (t : T) (es : List Expr) : Bool := match t with
  | .nil => es.isEmpty
  | .cons a b => (match es with | e :: es => chkE C a e && ns e && chkA C b es | [] => false)
  | _ => false
def chkX (C : Cg) (t : T) (e : Expr) : Bool := match t with
  | .xl as => (match e with | .List es _ => chkA C as es | _ => false)
  | .x1 o a => (match splitX1 C o e with | some x => chkE C a x | none => false)
  | .xcD vs tg k i c el => (match e with
    | .ListComp elt [g] scope _ => decide (g.is_async = 0) && blkC C.N C.sc scope (ownOf C vs) && chkD C k i g.target g.iter && nset g.iter && chkG (C.blk scope) tg g.target && tg.slots.all (fun i => vs.contains i) &&
      (match g.ifs with | [] => c.isNil | [x] => !c.isNil && tst c && chkE (C.blk scope) c x | _ => false) && chkE (C.blk scope) el elt
    | _ => false)
  | .xc vs tg it c el => (match e with
    | .ListComp elt [g] scope _ => decide (g.is_async = 0) && blkC C.N C.sc scope (ownOf C vs) && chkI C it g.target g.iter && nset g.iter && chkG (C.blk scope) tg g.target && tg.slots.all (fun i => vs.contains i) &&
      (match g.ifs with | [] => c.isNil | [x] => !c.isNil && tst c && chkE (C.blk scope) c x | _ => false) && chkE (C.blk scope) el elt
    | _ => false)
  | _ => false
def chkI (C : Cg) (t : T) (tg e : Expr) : Bool := match t with
  | .it1 k a => (match splitI1 C k e with | some x => (!pairs1 k || isTupE tg) && chkE C a x | none => false)
  | .it2 k a b => (match splitI2 C k e with | some (x, y) => (!pairs2 k || isTupE tg) && chkE C a x && chkE C b y | none => false)
  | _ => false
end
/-! ### what it is worth -/
def SE (B : Fm) (t : T) : Prop := ∀ (C : Cg) (X : Cx) (W : WN) (e : Expr), Ctx2 C X W → chkE C t e = true → PE X e (tE C X.K B W t)
def SA (B : Fm) (t : T) : Prop := ∀ (C : Cg) (X : Cx) (W : WN) (es : List Expr), Ctx2 C X W → chkA C t es = true → PA X es (tA C X.K B W t)
def SX (B : Fm) (t : T) : Prop := ∀ (C : Cg) (X : Cx) (W : WN) (e : Expr), Ctx2 C X W → chkX C t e = true → PE X e (tX C X.K B W t)
def SI (B : Fm) (t : T) : Prop := ∀ (C : Cg) (X : Cx) (W : WN) (tg e : Expr), Ctx2 C X W → chkI C t tg e = true → PI X tg e (tI C X.K B W t)
section
variable {B : Fm}
theorem okSlot_pe {C : Cg} {X : Cx} (c : Ctx C X) {i : Nat} {x : Str} {pos : Pos} (h : okSlot C i x = true) : PE X (.Name x pos) (tVar i) := by
  simp only [okSlot, okName, Bool.and_eq_true, decide_eq_true_eq] at h
  obtain ⟨⟨h1, h2⟩, h3, h4⟩ := h
  have hv : Vis X.env.scope x := by
    rw [c.sc]
    unfold vis at h2
    split at h2 <;> first | exact .inl (by assumption) | exact .inr (.inl (by assumption)) | exact .inr (.inr (by assumption)) | cases h2
  exact pe_var (by rw [c.hN]; exact h1) hv (beq_eq_false_iff_ne.mpr h3) (beq_eq_false_iff_ne.mpr h4)
theorem e_v (i : Nat) : SE B (.v i) := by
  intro C X W e c h
  cases e <;> first | (exact absurd h Bool.false_ne_true) | skip
  rename_i x pos
  refine PE.imp (okSlot_pe c.toCtx (i := i) h) ?_
  rintro σ H Q ⟨I, M, r, S, R, sl, m⟩
  simp only [evE] at m
  cases hd : r[i]? with
  | none => rw [hd] at m; exact m.elim
  | some o =>
    cases o with
    | none => rw [hd] at m; exact m.elim
    | some d' =>
      rw [hd] at m
      obtain ⟨v, hv, rp⟩ := sl.2 i d' hd
      exact ⟨v, hv, okP.now m R rp⟩
theorem e_k (d : D) : SE B (.k d) := by
  intro C X W e c h
  cases e <;> first | (exact absurd h Bool.false_ne_true) | skip
  rename_i k n pos
  have h : chkK d k = true := h
  have key : ∀ {σ : L2.St} {H : Hp} {Q : VK} {v : V}, tE C X.K B W (.k d) σ H Q → (∀ I M, Rp X.K I M v d) → Q v H := fun {σ H Q v} h r => by
    obtain ⟨I, M, ρ, S, R, sl, m⟩ := h
    exact okP.now m R (r I M)
  cases d <;> cases k <;> simp only [chkK, Bool.and_eq_true, decide_eq_true_eq, beq_iff_eq, reduceCtorEq, Bool.false_eq_true] at h
  · exact PE.imp pe_non fun σ H Q q => key q fun I M => .non
  · subst h; exact PE.imp pe_bl fun σ H Q q => key q fun I M => .bl _
  · subst h; exact PE.imp pe_int fun σ H Q q => key q fun I M => .int _
  · obtain ⟨rfl, hs⟩ := h; exact PE.imp pe_str fun σ H Q q => key q fun I M => .str hs
theorem e_g (i : Nat) : SE B (.g i) := by
  intro C X W e c h
  cases e <;> first | (exact absurd h Bool.false_ne_true) | skip
  rename_i x pos
  have h : (decide (C.cons[i]? = some x) && glb C x && okName x) = true := h
  simp only [okName, Bool.and_eq_true, decide_eq_true_eq] at h
  obtain ⟨⟨h1, h2⟩, h3, h4⟩ := h
  obtain ⟨u, v, hm, rv, rp⟩ := c.cons i x h1
  refine PE.imp (pe_glob (c.gl h2) hm rv (beq_eq_false_iff_ne.mpr h3)) ?_
  rintro σ H Q ⟨I, M, ρ, S, R, sl, m⟩
  exact okP.now m R (rp I M)
theorem e_o1 (o : O1) {a : T} (ha : SE B a) : SE B (.o1 o a) := by
  intro C X W e c h
  have h : (match split1 C o e with | some x => chkE C a x | none => false) = true := h
  split at h
  · rename_i x hx
    exact PE.imp (s1 c.toCtx hx (ha C X W x c h)) fun σ H Q q => tE_o1 q
  · cases h
theorem e_o2 (o : O2) {a b : T} (ha : SE B a) (hb : SE B b) : SE B (.o2 o a b) := by
  intro C X W e c h
  have h : (match split2 o e with | some (x, y) => chkE C a x && chkE C b y | none => false) = true := h
  split at h
  · rename_i x y hx
    simp only [Bool.and_eq_true] at h
    exact PE.imp (s2 c.toCtx hx (ha C X W x c h.1) (hb C X W y c h.2)) fun σ H Q q => tE_o2 q
  · cases h
theorem x_x1 (o : X1) {a : T} (ha : SE B a) : SX B (.x1 o a) := by
  intro C X W e c h
  have h : (match splitX1 C o e with | some x => chkE C a x | none => false) = true := h
  split at h
  · rename_i x hx
    exact PE.imp (sX1 c.toCtx hx (ha C X W x c h)) fun σ H Q q => tX_x1 q
  · cases h
theorem im_tX {C : Cg} {K : PySem.W.Frag} {B : Fm} {W : WN} {x : T} : ∀ (σ : L2.St) (H : Hp) (Q : VK), tE C K B W (.im x) σ H Q → tX C K B W x σ H Q := by
  rintro σ H Q ⟨I, M, ρ, S, R, sl, m⟩
  refine ⟨I, M, ρ, S, R, sl, ?_⟩
  simp only [evE] at m
  cases e1 : evX C.E x ρ S with
  | ok ds S1 =>
    rw [e1] at m
    exact fun I' M' H' p vs le R' ra hp => (okP.mono m le).newLst R' ra hp
  | ex c S1 => rw [e1] at m; exact m
  | no => rw [e1] at m; exact m
theorem e_im {x : T} (hx : SX B x) : SE B (.im x) := fun C X W e c h => PE.imp (hx C X W e c h) im_tX
theorem mk_tX {C : Cg} {K : PySem.W.Frag} {B : Fm} {W : WN} {x : T} : ∀ (σ : L2.St) (H : Hp) (Q : VK), tE C K B W (.mk x) σ H Q → tX C K B W x σ H Q := by
  rintro σ H Q ⟨I, M, ρ, S, R, sl, m⟩
  refine ⟨I, M, ρ, S, R, sl, ?_⟩
  simp only [evE] at m
  cases e1 : evX C.E x ρ S with
  | ok ds S1 =>
    rw [e1] at m
    refine fun I' M' H' p vs le R' ra hp => ?_
    have hI := R'.free hp
    obtain ⟨R2, le2⟩ := R'.alloc (o := .lst vs) (c := .lst ds) hp fun H2 h2 => ⟨hI, vs, h2, ra.mono ⟨Same.refl _, fun n a h => by rw [List.getElem?_append_left (List.getElem?_eq_some_iff.mp h).1]; exact h⟩⟩
    refine m _ _ _ _ (le.trans le2) R2 (.loc ?_)
    rw [← R'.len, List.getElem?_append_right (Nat.le_refl _)]
    simp
  | ex c S1 => rw [e1] at m; exact m
  | no => rw [e1] at m; exact m
theorem e_mk {x : T} (hx : SX B x) : SE B (.mk x) := fun C X W e c h => PE.imp (hx C X W e c h) mk_tX
theorem e_frz {x : T} (hx : SE B x) : SE B (.frz x) := by
  intro C X W e c h
  refine PE.imp (hx C X W e c h) ?_
  rintro σ H Q ⟨I, M, ρ, S, R, sl, m⟩
  refine ⟨I, M, ρ, S, R, sl, ?_⟩
  simp only [evE] at m
  cases e1 : evE C.E x ρ S with
  | ok d S1 =>
    rw [e1] at m
    intro I' M' H' v le R' rp
    simp only [Bp.R.bind] at m
    split at m
    · rename_i d2 S2 heq
      cases d <;> first | (cases heq; exact m _ _ _ _ le R' rp) | skip
      cases rp with
      | loc hM =>
        rename_i n a
        simp only at heq
        split at heq
        · rename_i xs hS
          cases heq
          obtain ⟨hI, vs, hH, ra⟩ := R'.cell n a _ hM hS
          obtain ⟨R2, le2⟩ := R'.freeze (d := .lst xs) hM hS rfl hH fun I2 h2 l2 => .lst h2 (ra.mono l2)
          exact m _ _ _ _ (le.trans le2) R2 (.lst upd_same (ra.mono le2))
        · rename_i ks vs hS
          cases heq
          obtain ⟨hI, kvs, hH, hk, ra⟩ := R'.cell n a _ hM hS
          obtain ⟨R2, le2⟩ := R'.freeze (d := .dK ks vs) hM hS rfl hH fun I2 h2 l2 => .dK h2 hk (ra.mono l2)
          exact m _ _ _ _ (le.trans le2) R2 (.dK upd_same hk (ra.mono le2))
        · rename_i ks vs hS
          cases heq
          obtain ⟨hI, kvs, hH, hk, ra⟩ := R'.cell n a _ hM hS
          obtain ⟨R2, le2⟩ := R'.freeze (d := .dT ks vs) hM hS rfl hH fun I2 h2 l2 => .dT h2 hk (ra.mono l2)
          exact m _ _ _ _ (le.trans le2) R2 (.dT upd_same hk (ra.mono le2))
        · rename_i e2 hS
          cases heq
          exact m _ _ _ _ le R' (R'.cell n a _ hM hS).1
        · cases heq
    · rename_i heq
      cases d <;> first | (cases heq; done) | skip
      simp only at heq
      split at heq <;> cases heq
    · exact m.elim
  | ex c S1 => rw [e1] at m; exact m
  | no => rw [e1] at m; exact m
theorem a_nil : SA B .nil := by
  intro C X W es c h
  cases es with
  | nil =>
    refine PA.imp pa_nil ?_
    rintro σ H Q ⟨I, M, ρ, S, R, sl, m⟩
    exact m I M H [] Le.refl R .nil
  | cons e es => cases h
theorem a_cons {a b : T} (ha : SE B a) (hb : SA B b) : SA B (.cons a b) := by
  intro C X W es c h
  cases es with
  | nil => cases h
  | cons e es =>
    have h : (chkE C a e && ns e && chkA C b es) = true := h
    simp only [Bool.and_eq_true] at h
    refine PA.imp (pa_cons (ha C X W e c h.1.1) (hb C X W es c h.2) (ns_star h.1.2 _ _)) ?_
    rintro σ H Q ⟨I, M, ρ, S, R, sl, m⟩
    refine ⟨I, M, ρ, S, R, sl, ?_⟩
    simp only [evA] at m
    cases e1 : evE C.E a ρ S with
    | ok d S1 =>
      rw [e1] at m
      simp only [Bp.R.bind] at m
      refine fun I1 M1 H1 v le R1 rp => ⟨I1, M1, ρ, S1, R1, sl.mono le, ?_⟩
      cases e2 : evA C.E b ρ S1 with
      | ok ds S2 =>
        rw [e2] at m
        exact fun I2 M2 H2 vs le2 R2 ra => m _ _ _ _ (le.trans le2) R2 (.cons (rp.mono le2) ra)
      | ex c S2 => rw [e2] at m; exact exP.mono m le
      | no => rw [e2] at m; exact m
    | ex c S1 => rw [e1] at m; exact m
    | no => rw [e1] at m; exact m
theorem e_tup {as : T} (h1 : SA B as) : SE B (.tup as) := by
  intro C X W e c h
  cases e <;> first | (exact absurd h Bool.false_ne_true) | skip
  rename_i es kk pos
  refine PE.imp (pe_tup (h1 C X W es c h)) ?_
  rintro σ H Q ⟨I, M, ρ, S, R, sl, m⟩
  refine ⟨I, M, ρ, S, R, sl, ?_⟩
  simp only [evE] at m
  cases e1 : evA C.E as ρ S with
  | ok ds S1 =>
    rw [e1] at m
    simp only [Bp.R.bind] at m
    by_cases hl : ds.length ≤ sizeLine
    · rw [if_pos hl] at m
      exact fun I' M' H' vs le R' ra => ⟨by rw [ra.length]; exact hl, fun p hp => (okP.mono m le).newTup R' ra hp⟩
    · rw [if_neg hl] at m; exact m.elim
  | ex c S1 => rw [e1] at m; exact m
  | no => rw [e1] at m; exact m
theorem x_xl {as : T} (h1 : SA B as) : SX B (.xl as) := by
  intro C X W e c h
  cases e <;> first | (exact absurd h Bool.false_ne_true) | skip
  rename_i es pos
  refine PE.imp (pe_lst (h1 C X W es c h)) ?_
  rintro σ H Q ⟨I, M, ρ, S, R, sl, m⟩
  refine ⟨I, M, ρ, S, R, sl, ?_⟩
  simp only [evX] at m
  cases e1 : evA C.E as ρ S with
  | ok ds S1 =>
    rw [e1] at m
    simp only [Bp.R.bind] at m
    by_cases hl : ds.length ≤ sizeLine
    · rw [if_pos hl] at m
      exact fun I' M' H' vs le R' ra => ⟨by rw [ra.length]; exact hl, fun p hp => m _ _ _ _ _ le R' ra hp⟩
    · rw [if_neg hl] at m; exact m.elim
  | ex c S1 => rw [e1] at m; exact m
  | no => rw [e1] at m; exact m
theorem e_call (f : Nat) {as : T} (h1 : SA B as) : SE B (.call f as) := by
  intro C X W e c h
  have h' : (match (generalizing := false) e with
    | .Call (.Name x _) (e :: es) [] _ => decide (C.fns[f]? = some x) && glb C x && okName x && chkA C as (e :: es)
    | _ => false) = true := h
  clear h
  split at h'
  · rename_i x p e0 es pos
    have h := h'
    simp only [okName, Bool.and_eq_true, decide_eq_true_eq] at h
    obtain ⟨⟨⟨hf, hg⟩, hn1, hn2⟩, ha⟩ := h
    obtain ⟨fa, fd, ps, hm, hk, hb, hln, F⟩ := c.fns f x hf
    have nse : ∀ (t : T) (es : List Expr), chkA C t es = true → ∀ pos : Pos, (backTo pos (starEach es X.env)).any (·.1) = false := by
      intro t
      induction t <;> intro es h pos <;> first | (cases h; done) | skip
      · cases es with
        | nil => rfl
        | cons _ _ => cases h
      · rename_i a b _ ihb
        cases es with
        | nil => cases h
        | cons e es =>
          have h : (chkE C a e && ns e && chkA C b es) = true := h
          simp only [Bool.and_eq_true] at h
          have := ihb es h.2 pos
          rw [ns_star h.1.2]
          simpa [backTo] using this
    have hs0 : ns e0 = true ∧ ∃ b, chkA C b es = true := by
      cases as <;> first | (cases ha; done) | skip
      rename_i a b
      have h : (chkE C a e0 && ns e0 && chkA C b es) = true := ha
      simp only [Bool.and_eq_true] at h
      exact ⟨h.1.2, b, h.2⟩
    obtain ⟨hs0, bt, hbt⟩ := hs0
    refine PE.imp (pe_callS (E := WE (wx C W)) F c.room (c.gl hg) hm hk hb (fun σ => passAt c.takes σ) (h1 C X W _ c ha) (beq_eq_false_iff_ne.mpr hn1) (ns_star hs0 _ _) (nse bt es hbt pos)) ?_
    rintro σ H Q ⟨I, M, ρ, S, R, sl, m⟩
    refine ⟨I, M, ρ, S, R, sl, ?_⟩
    simp only [evE] at m
    cases e1 : evA C.E as ρ S with
    | ok ds S1 =>
      rw [e1] at m
      simp only [Bp.R.bind, callP] at m
      by_cases hok : ds.all (okN dep) = true
      · rw [if_pos hok] at m
        intro I' M' H' vs le R' ra
        have hlen : vs.length = ps.length := by
          rw [ra.length]
          refine hln ds fun z => ?_
          rw [z] at m
          exact m
        refine ⟨hlen, I', B.L, ds, R'.sub, R'.lk, RpA.strip hok ra, ?_⟩
        cases e2 : C.E.F f ds with
        | ok d =>
          rw [e2] at m
          intro I2 H2 v hs hi hx hih rp
          obtain ⟨R2, le2⟩ := R'.call hs hi hx hih
          exact m _ _ _ _ (le.trans le2) R2 rp.less
        | ex cc =>
          rw [e2] at m
          intro H2 hs
          obtain ⟨R2, le2⟩ := R'.call (I' := I') hs (Same.refl _) (fun a o h => .inl h) (fun a o h => (R'.sub a o h).same hs)
          exact ⟨cc, rfl, rfl, m _ _ _ (le.trans le2) R2⟩
        | no => rw [e2] at m; exact m
      · rw [if_neg hok] at m; exact m.elim
    | ex c S1 => rw [e1] at m; exact m
    | no => rw [e1] at m; exact m
  · cases h'
end
end Bp

namespace Bp
open PySem L2
/-! ### tests -/
def tT (C : Cg) (K : PySem.W.Frag) (B : Fm) (W : WN) (t : T) : TT := fun σ H Q => ∃ I M r S, Rel K B I M S H ∧ Sl K I M r σ ∧ (match evE C.E t r S with
  | .ok (.bl b) S' => exP K B I M S' (Q b)
  | .ok _ _ => False
  | .ex c S' => exP K B I M S' (W c σ)
  | .no => False)
def ST (B : Fm) (t : T) : Prop := ∀ (C : Cg) (X : Cx) (W : WN) (e : Expr), Ctx2 C X W → chkE C t e = true → PT X e (tT C X.K B W t)
def plainT : Expr → Bool
  | .UnaryOp .Not _ _ => false
  | .BoolOp _ _ _ => false
  | .IfExp _ _ _ _ => false
  | .Compare _ _ _ _ => false
  | _ => true
theorem plainT_eq {e : Expr} (h : plainT e = true) (env : Env) (whole : Sem Value) : isTrue e env whole = (do let v ← whole; standAt e.pos; holding [v] (truthy v)) := by
  cases e <;> first | rfl | (cases h; done) | skip
  rename_i op x p
  cases op <;> first | rfl | cases h
section
variable {B : Fm}
theorem tT_tB {C : Cg} {K : PySem.W.Frag} {W : WN} {t : T} {σ : L2.St} {H : Hp} {Q : Bool → Hp → Prop} (h : tT C K B W t σ H Q) : tE C K B W t σ H fun x H1 => ∃ c, x = .bl c ∧ Q c H1 := by
  obtain ⟨I, M, ρ, S, R, sl, m⟩ := h
  refine ⟨I, M, ρ, S, R, sl, ?_⟩
  split at m
  · rename_i b S' heq
    rw [heq]
    intro I' M' H' v le R' rp
    cases rp
    exact ⟨b, rfl, m I' M' H' le R'⟩
  · exact m.elim
  · rename_i c S' heq
    rw [heq]
    exact m
  · exact m.elim
theorem st_plain {C : Cg} {X : Cx} {W : WN} {t : T} {e : Expr} (h : PE X e (tE C X.K B W t)) (hp : plainT e = true) : PT X e (tT C X.K B W t) :=
  PT.imp (pt_val h (plainT_eq hp X.env)) fun σ H Q q => tT_tB q
theorem st_o2 (o : O2) {a b : T} (ha : SE B a) (hb : SE B b) : ST B (.o2 o a b) := by
  intro C X W e c h
  have he := e_o2 o ha hb C X W e c h
  by_cases hp : plainT e = true
  · exact st_plain he hp
  · have h' : (match split2 o e with | some (x, y) => chkE C a x && chkE C b y | none => false) = true := h
    split at h'
    · rename_i x y hx
      simp only [Bool.and_eq_true] at h'
      unfold split2 at hx
      split at hx
      · exact absurd rfl hp
      · split at hx
        · rename_i hh
          cases hx
          refine PT.imp (pt_cmpR (cmp_ok (B := B) c.toCtx hh.1) (ha C X W _ c h'.1) (hb C X W _ c h'.2) (nset_mark hh.2 _)) fun σ H Q q => ?_
          exact tE_o2 (tT_tB q)
        · cases hx
      · exact absurd rfl hp
      · cases hx
    · cases h'
theorem st_not {a : T} (ha : ST B a) : ST B (.not a) := by
  intro C X W e c h
  have h' : (match (generalizing := false) e with | .UnaryOp .Not x _ => chkE C a x | _ => false) = true := h
  split at h'
  · rename_i x p
    refine PT.imp (pt_not (ha C X W x c h')) ?_
    rintro σ H Q ⟨I, M, ρ, S, R, sl, m⟩
    refine ⟨I, M, ρ, S, R, sl, ?_⟩
    simp only [evE] at m
    cases e1 : evE C.E a ρ S with
    | ok d S1 =>
      rw [e1] at m
      simp only [Bp.R.bind] at m
      cases d <;> first | exact m.elim | exact m
    | ex c S1 => rw [e1] at m; exact m
    | no => rw [e1] at m; exact m
  · cases h'
theorem pw_of {X : Cx} {op : BoolOp} {vs : List Expr} {p : Pos} {t : TT} (h : PT X (.BoolOp op vs p) t) : PW X (.BoolOp op vs p) t := ⟨fun _ pins s σ H Q I q => h.run pins s σ H Q I q⟩
theorem st_and {a b : T} (ha : ST B a) (hb : ST B b) : ST B (.and a b) := by
  intro C X W e c h
  have h' : (match (generalizing := false) e with
    | .BoolOp .And (x :: y :: rest) p => chkE C a x && (match rest with | [] => chkE C b y | z :: zs => chkE C b (.BoolOp .And (y :: z :: zs) p))
    | _ => false) = true := h
  split at h'
  · rename_i x y rest p
    simp only [Bool.and_eq_true] at h'
    have hw : PW X (.BoolOp .And (y :: rest) p) (tT C X.K B W b) := by
      cases rest with
      | nil => exact pw_and1 (hb C X W y c h'.2)
      | cons z zs => exact pw_of (hb C X W _ c h'.2)
    refine PT.imp (PW.pt (pw_and (ha C X W x c h'.1) hw)) ?_
    rintro σ H Q ⟨I, M, ρ, S, R, sl, m⟩
    refine ⟨I, M, ρ, S, R, sl, ?_⟩
    simp only [evE] at m
    cases e1 : evE C.E a ρ S with
    | ok d S1 =>
      rw [e1] at m
      simp only [Bp.R.bind] at m
      cases d <;> first | exact m.elim | skip
      rename_i bb
      cases bb with
      | true =>
        intro I' M' H' le R'
        show if true = true then _ else _
        rw [if_pos rfl]
        refine ⟨I', M', ρ, S1, R', sl.mono le, ?_⟩
        simp only at m
        split at m
        · exact exP.mono m le
        · exact m.elim
        · exact exP.mono m le
        · exact m.elim
      | false =>
        intro I' M' H' le R'
        show if false = true then _ else _
        rw [if_neg Bool.false_ne_true]
        exact m I' M' H' le R'
    | ex c S1 => rw [e1] at m; exact m
    | no => rw [e1] at m; exact m
  · cases h'
theorem st_or {a b : T} (ha : ST B a) (hb : ST B b) : ST B (.or a b) := by
  intro C X W e c h
  have h' : (match (generalizing := false) e with
    | .BoolOp .Or (x :: y :: rest) p => chkE C a x && (match rest with | [] => chkE C b y | z :: zs => chkE C b (.BoolOp .Or (y :: z :: zs) p))
    | _ => false) = true := h
  split at h'
  · rename_i x y rest p
    simp only [Bool.and_eq_true] at h'
    have hw : PW X (.BoolOp .Or (y :: rest) p) (tT C X.K B W b) := by
      cases rest with
      | nil => exact pw_or1 (hb C X W y c h'.2)
      | cons z zs => exact pw_of (hb C X W _ c h'.2)
    refine PT.imp (PW.pt (pw_or (ha C X W x c h'.1) hw)) ?_
    rintro σ H Q ⟨I, M, ρ, S, R, sl, m⟩
    refine ⟨I, M, ρ, S, R, sl, ?_⟩
    simp only [evE] at m
    cases e1 : evE C.E a ρ S with
    | ok d S1 =>
      rw [e1] at m
      simp only [Bp.R.bind] at m
      cases d <;> first | exact m.elim | skip
      rename_i bb
      cases bb with
      | true =>
        intro I' M' H' le R'
        show if true = true then _ else _
        rw [if_pos rfl]
        exact m I' M' H' le R'
      | false =>
        intro I' M' H' le R'
        show if false = true then _ else _
        rw [if_neg Bool.false_ne_true]
        refine ⟨I', M', ρ, S1, R', sl.mono le, ?_⟩
        simp only at m
        split at m
        · exact exP.mono m le
        · exact m.elim
        · exact exP.mono m le
        · exact m.elim
    | ex c S1 => rw [e1] at m; exact m
    | no => rw [e1] at m; exact m
  · cases h'
theorem e_not {a : T} (ha : SE B a) : SE B (.not a) := by
  intro C X W e c h
  have h' : (match (generalizing := false) e with | .UnaryOp .Not x _ => chkE C a x | _ => false) = true := h
  split at h'
  · rename_i x p
    refine PE.imp (pe_not (ha C X W x c h')) ?_
    rintro σ H Q ⟨I, M, ρ, S, R, sl, m⟩
    refine ⟨I, M, ρ, S, R, sl, ?_⟩
    simp only [evE] at m
    cases e1 : evE C.E a ρ S with
    | ok d S1 =>
      rw [e1] at m
      simp only [Bp.R.bind] at m
      cases d <;> first | exact m.elim | skip
      intro I' M' H' v le R' rp
      cases rp
      exact ⟨_, rfl, m _ _ _ _ le R' (.bl _)⟩
    | ex c S1 => rw [e1] at m; exact m
    | no => rw [e1] at m; exact m
  · cases h'
theorem e_and {a b : T} (ha : SE B a) (hb : SE B b) : SE B (.and a b) := by
  intro C X W e c h
  have h' : (match (generalizing := false) e with
    | .BoolOp .And (x :: y :: rest) p => chkE C a x && (match rest with | [] => chkE C b y | z :: zs => chkE C b (.BoolOp .And (y :: z :: zs) p))
    | _ => false) = true := h
  split at h'
  · rename_i x y rest p
    simp only [Bool.and_eq_true] at h'
    have hw : PE X (.BoolOp .And (y :: rest) p) (tE C X.K B W b) := by
      cases rest with
      | nil => exact pe_one (hb C X W y c h'.2)
      | cons z zs => exact hb C X W _ c h'.2
    refine PE.imp (pe_and (ha C X W x c h'.1) hw) ?_
    rintro σ H Q ⟨I, M, ρ, S, R, sl, m⟩
    refine ⟨I, M, ρ, S, R, sl, ?_⟩
    simp only [evE] at m
    cases e1 : evE C.E a ρ S with
    | ok d S1 =>
      rw [e1] at m
      simp only [Bp.R.bind] at m
      cases d <;> first | exact m.elim | skip
      rename_i bb
      intro I' M' H' v le R' rp
      cases rp
      refine ⟨bb, rfl, ?_⟩
      cases bb with
      | true =>
        rw [if_pos rfl]
        refine ⟨I', M', ρ, S1, R', sl.mono le, ?_⟩
        simp only at m
        split at m
        · exact okP.mono m le
        · exact exP.mono m le
        · exact m.elim
      | false =>
        rw [if_neg Bool.false_ne_true]
        exact m _ _ _ _ le R' (.bl _)
    | ex c S1 => rw [e1] at m; exact m
    | no => rw [e1] at m; exact m
  · cases h'
theorem e_or {a b : T} (ha : SE B a) (hb : SE B b) : SE B (.or a b) := by
  intro C X W e c h
  have h' : (match (generalizing := false) e with
    | .BoolOp .Or (x :: y :: rest) p => chkE C a x && (match rest with | [] => chkE C b y | z :: zs => chkE C b (.BoolOp .Or (y :: z :: zs) p))
    | _ => false) = true := h
  split at h'
  · rename_i x y rest p
    simp only [Bool.and_eq_true] at h'
    have hw : PE X (.BoolOp .Or (y :: rest) p) (tE C X.K B W b) := by
      cases rest with
      | nil => exact pe_one (hb C X W y c h'.2)
      | cons z zs => exact hb C X W _ c h'.2
    refine PE.imp (pe_or (ha C X W x c h'.1) hw) ?_
    rintro σ H Q ⟨I, M, ρ, S, R, sl, m⟩
    refine ⟨I, M, ρ, S, R, sl, ?_⟩
    simp only [evE] at m
    cases e1 : evE C.E a ρ S with
    | ok d S1 =>
      rw [e1] at m
      simp only [Bp.R.bind] at m
      cases d <;> first | exact m.elim | skip
      rename_i bb
      intro I' M' H' v le R' rp
      cases rp
      refine ⟨bb, rfl, ?_⟩
      cases bb with
      | true =>
        rw [if_pos rfl]
        exact m _ _ _ _ le R' (.bl _)
      | false =>
        rw [if_neg Bool.false_ne_true]
        refine ⟨I', M', ρ, S1, R', sl.mono le, ?_⟩
        simp only at m
        split at m
        · exact okP.mono m le
        · exact exP.mono m le
        · exact m.elim
    | ex c S1 => rw [e1] at m; exact m
    | no => rw [e1] at m; exact m
  · cases h'
theorem e_ite {c a b : T} (hc : tst c = true → ST B c) (ha : SE B a) (hb : SE B b) : SE B (.ite c a b) := by
  intro C X W e cx h
  cases e <;> first | (exact absurd h Bool.false_ne_true) | skip
  rename_i x y z p
  have h' : (tst c && chkE C c x && chkE C a y && chkE C b z) = true := h
  simp only [Bool.and_eq_true] at h'
  refine PE.imp (pe_ifExp (hc h'.1.1.1 C X W x cx h'.1.1.2) (ha C X W y cx h'.1.2) (hb C X W z cx h'.2)) ?_
  rintro σ H Q ⟨I, M, ρ, S, R, sl, m⟩
  refine ⟨I, M, ρ, S, R, sl, ?_⟩
  simp only [evE] at m
  cases e1 : evE C.E c ρ S with
  | ok d S1 =>
    rw [e1] at m
    simp only [Bp.R.bind] at m
    cases d <;> first | exact m.elim | skip
    rename_i bb
    intro I' M' H' le R'
    cases bb with
    | true =>
      rw [if_pos rfl]
      refine ⟨I', M', ρ, S1, R', sl.mono le, ?_⟩
      simp only at m
      split at m
      · exact okP.mono m le
      · exact exP.mono m le
      · exact m.elim
    | false =>
      rw [if_neg Bool.false_ne_true]
      refine ⟨I', M', ρ, S1, R', sl.mono le, ?_⟩
      simp only at m
      split at m
      · exact okP.mono m le
      · exact exP.mono m le
      · exact m.elim
  | ex c S1 => rw [e1] at m; exact m
  | no => rw [e1] at m; exact m
end
end Bp

namespace Bp
open PySem L2
section
variable {B : Fm}
theorem tE_ch {C : Cg} {K : PySem.W.Frag} {W : WN} {o p : O2} {a b c : T} {σ : L2.St} {H : Hp} {Q : VK} (h : tE C K B W (.ch o p a b c) σ H Q) : tChain (r2 K B (ev2 o)) (r2 K B (ev2 p)) (tE C K B W a) (tE C K B W b) (tE C K B W c) σ H Q := by
  obtain ⟨I, M, ρ, S, R, sl, m⟩ := h
  refine ⟨I, M, ρ, S, R, sl, ?_⟩
  simp only [evE] at m
  cases e1 : evE C.E a ρ S with
  | ex c S1 => rw [e1] at m; exact m
  | no => rw [e1] at m; exact m
  | ok x S1 =>
    rw [e1] at m
    simp only [Bp.R.bind] at m
    refine fun I1 M1 H1 v le R1 rp => ⟨I1, M1, ρ, S1, R1, sl.mono le, ?_⟩
    cases e2 : evE C.E b ρ S1 with
    | ex c S2 => rw [e2] at m; exact exP.mono m le
    | no => rw [e2] at m; exact m
    | ok y S2 =>
      rw [e2] at m
      simp only at m
      intro I2 M2 H2 u le2 R2 rp2
      cases e3 : ev2 o (res S2 x) (res S2 y) with
      | none => rw [e3] at m; exact m.elim
      | some z =>
        rw [e3] at m
        refine ⟨I2, M2, S2, x, y, z, R2, rp.mono le2, rp2, e3, fun I3 M3 H3 w le3 R3 rp3 => ?_⟩
        cases z <;> first | exact m.elim | skip
        rename_i bb
        cases rp3
        refine ⟨bb, rfl, ?_⟩
        cases bb with
        | false =>
          rw [if_neg Bool.false_ne_true]
          exact m _ _ _ _ ((le.trans le2).trans le3) R3 (.bl _)
        | true =>
          rw [if_pos rfl]
          refine ⟨I3, M3, ρ, S2, R3, sl.mono ((le.trans le2).trans le3), ?_⟩
          simp only at m
          cases e4 : evE C.E c ρ S2 with
          | ex c S3 => rw [e4] at m; exact exP.mono m ((le.trans le2).trans le3)
          | no => rw [e4] at m; exact m
          | ok w S3 =>
            rw [e4] at m
            simp only [Bp.R.opt] at m
            intro I4 M4 H4 v4 le4 R4 rp4
            cases e5 : ev2 p (res S3 y) (res S3 w) with
            | none => rw [e5] at m; exact m.elim
            | some z =>
              rw [e5] at m
              exact ⟨I4, M4, S3, y, w, z, R4, (rp2.mono le3).mono le4, rp4, e5, okP.mono m (((le.trans le2).trans le3).trans le4)⟩
theorem ch_parts {C : Cg} {o p : O2} {a b c : T} {e : Expr} (h : chkE C (.ch o p a b c) e = true) : ∃ x y z op op' pos, e = .Compare x [op, op'] [y, z] pos ∧ cmpOp o = some op ∧ cmpOp p = some op' ∧ nset y = true ∧ nset z = true ∧ chkE C a x = true ∧ chkE C b y = true ∧ chkE C c z = true := by
  have h' : (match (generalizing := false) e with
    | .Compare x [op, op'] [y, z] _ => decide (cmpOp o = some op) && decide (cmpOp p = some op') && nset y && nset z && chkE C a x && chkE C b y && chkE C c z
    | _ => false) = true := h
  split at h'
  · rename_i x op op' y z pos
    simp only [Bool.and_eq_true, decide_eq_true_eq] at h'
    obtain ⟨⟨⟨⟨⟨⟨h1, h2⟩, h3⟩, h4⟩, h5⟩, h6⟩, h7⟩ := h'
    exact ⟨x, y, z, op, op', pos, rfl, h1, h2, h3, h4, h5, h6, h7⟩
  · cases h'
theorem e_ch (o p : O2) {a b c : T} (ha : SE B a) (hb : SE B b) (hc : SE B c) : SE B (.ch o p a b c) := by
  intro C X W e cx h
  obtain ⟨x, y, z, op, op', pos, rfl, h1, h2, h3, h4, h5, h6, h7⟩ := ch_parts h
  exact PE.imp (pe_chain (cmp_ok (B := B) cx.toCtx h1) (cmp_ok (B := B) cx.toCtx h2) (ha C X W _ cx h5) (hb C X W _ cx h6) (hc C X W _ cx h7) (nset_mark h4 _)) fun σ H Q q => tE_ch q
theorem st_ch (o p : O2) {a b c : T} (ha : SE B a) (hb : SE B b) (hc : SE B c) : ST B (.ch o p a b c) := by
  intro C X W e cx h
  obtain ⟨x, y, z, op, op', pos, rfl, h1, h2, h3, h4, h5, h6, h7⟩ := ch_parts h
  exact PT.imp (pt_chain (cmp_ok (B := B) cx.toCtx h1) (cmp_ok (B := B) cx.toCtx h2) (ha C X W _ cx h5) (hb C X W _ cx h6) (hc C X W _ cx h7) (nset_mark h4 _)) fun σ H Q q => tE_ch (tT_tB q)
/-! ### a part -/
def tO (C : Cg) (K : PySem.W.Frag) (B : Fm) (W : WN) (t : T) : TO := fun σ H Z => ∃ I M r S, Rel K B I M S H ∧ Sl K I M r σ ∧ (match partI t.isNil (fun S => evE C.E t r S) S with
  | .ok l S' => exP K B I M S' (Z l)
  | .ex c S' => exP K B I M S' (W c σ)
  | .no => False)
theorem PO.imp {X : Cx} {e : Option Expr} {t t' : TO} (h : PO X e t) (k : ∀ σ H Z, t' σ H Z → t σ H Z) : PO X e t' := ⟨fun pins s σ H Z I q => h.run pins s σ H Z I (k σ H Z q)⟩
theorem po_ok {t : T} (ht : SE B t) {C : Cg} {X : Cx} {W : WN} (c : Ctx2 C X W) : ∀ (l : Option Expr), (match l with | none => t.isNil | some y => !t.isNil && chkE C t y) = true → PO X l (tO C X.K B W t)
  | none, h => by
    refine PO.imp po_none ?_
    rintro σ H Z ⟨I, M, ρ, S, R, sl, m⟩
    have h : t.isNil = true := h
    unfold partI at m
    rw [if_pos h] at m
    exact m I M H Le.refl R
  | some y, h => by
    simp only [Bool.and_eq_true, Bool.not_eq_true'] at h
    refine PO.imp (po_some (ht C X W y c h.2)) ?_
    rintro σ H Z ⟨I, M, ρ, S, R, sl, m⟩
    refine ⟨I, M, ρ, S, R, sl, ?_⟩
    unfold partI at m
    rw [if_neg (by rw [h.1]; exact Bool.false_ne_true)] at m
    dsimp only at m
    cases e1 : evE C.E t ρ S with
    | ex c S1 => rw [e1] at m; exact m
    | no => rw [e1] at m; exact m
    | ok d S1 =>
      rw [e1] at m
      simp only [Bp.R.bind] at m
      cases d <;> first | exact m.elim | skip
      intro I' M' H' v le R' rp
      cases rp
      exact ⟨_, rfl, m I' M' H' le R'⟩
theorem e_sl {a lo hi : T} (ha : SE B a) (hlo : SE B lo) (hhi : SE B hi) : SE B (.sl a lo hi) := by
  intro C X W e c h
  have h' : (match (generalizing := false) e with
    | .Subscript x (.Slice l h none _) _ => chkE C a x && (match l with | none => lo.isNil | some y => !lo.isNil && chkE C lo y) && (match h with | none => hi.isNil | some y => !hi.isNil && chkE C hi y)
    | _ => false) = true := h
  split at h'
  · rename_i x l u p pos
    simp only [Bool.and_eq_true] at h'
    refine PE.imp (pe_slice (b_sl (B := B)) (ha C X W x c h'.1.1) (po_ok hlo c l h'.1.2) (po_ok hhi c u h'.2)) ?_
    rintro σ H Q ⟨I, M, ρ, S, R, sl, m⟩
    refine ⟨I, M, ρ, S, R, sl, ?_⟩
    simp only [evE] at m
    cases e1 : evE C.E a ρ S with
    | ex c S1 => rw [e1] at m; exact m
    | no => rw [e1] at m; exact m
    | ok d S1 =>
      rw [e1] at m
      simp only [Bp.R.bind] at m
      refine fun I1 M1 H1 v le R1 rp => ⟨I1, M1, ρ, S1, R1, sl.mono le, ?_⟩
      cases e2 : partI lo.isNil (fun S => evE C.E lo ρ S) S1 with
      | ex c S2 => rw [e2] at m; exact exP.mono m le
      | no => rw [e2] at m; exact m
      | ok l2 S2 =>
        rw [e2] at m
        simp only at m
        refine fun I2 M2 H2 le2 R2 => ⟨I2, M2, ρ, S2, R2, sl.mono (le.trans le2), ?_⟩
        cases e3 : partI hi.isNil (fun S => evE C.E hi ρ S) S2 with
        | ex c S3 => rw [e3] at m; exact exP.mono m (le.trans le2)
        | no => rw [e3] at m; exact m
        | ok u2 S3 =>
          rw [e3] at m
          simp only [Bp.R.opt] at m
          intro I3 M3 H3 le3 R3
          cases e4 : slD (res S3 d) l2 u2 with
          | none => rw [e4] at m; exact m.elim
          | some z =>
            rw [e4] at m
            exact ⟨I3, M3, S3, d, z, R3, (rp.mono le2).mono le3, e4, okP.mono m ((le.trans le2).trans le3)⟩
  · cases h'
theorem slotLoc_eq {r : Rho} {i n : Nat} (h : slotLoc r i = some n) : r[i]? = some (some (.loc n)) := by
  unfold slotLoc at h
  split at h
  · rename_i hh; cases h; exact hh
  · cases h
theorem isLst_eq {S : Sto} {n : Nat} (h : isLst S n = true) : ∃ xs, S[n]? = some (.lst xs) := by
  unfold isLst at h
  split at h
  · rename_i hh; exact ⟨_, hh⟩
  · cases h
theorem e_app (i : Nat) {t : T} (ht : SE B t) : SE B (.app i t) := by
  intro C X W e c h
  have h' : (match (generalizing := false) e with
    | .Call (.Attribute (.Name x _) m apos) [y] [] cpos => okSlot C i x && decide (m = ("append" : Str)) && ns y && (apos.endLine == cpos.line) && chkE C t y
    | _ => false) = true := h
  split at h'
  · rename_i x px m apos y cpos
    simp only [Bool.and_eq_true, decide_eq_true_eq] at h'
    obtain ⟨⟨⟨⟨h1, rfl⟩, h3⟩, h4⟩, h5⟩ := h'
    have few : ((backTo cpos (starEach [y] X.env)).all (fun x => !x.1) && (backToKw cpos (keywordEach [] X.env)).all (fun x => x.1.isSome) && decide (([y] : List Expr).length + ([] : List Keyword).length + (if ([] : List Keyword).isEmpty then 0 else 1) < 30)) = true := by
      rw [ns_star h3]
      rfl
    refine PE.imp (pe_bm PySem.F.plainAttrs_list PySem.F.slot_list_append PySem.F.type_list_append mt_append (okSlot_pe c.toCtx (i := i) (pos := px) h1) (pa_cons (Bp.PE.mo (ht C X W y c h5)) pa_nil (ns_star h3 _ _)) rfl few h4 (ns_star h3 _ _) rfl) ?_
    rintro σ H Q ⟨I, M, ρ, S, R, sl, m⟩
    simp only [evE] at m
    cases hn : slotLoc ρ i with
    | none => rw [hn] at m; exact m.elim
    | some n =>
      rw [hn] at m
      simp only at m
      by_cases hl : isLst S n = true
      · rw [if_pos hl] at m
        obtain ⟨v, hv, rp⟩ := sl.2 i _ (slotLoc_eq hn)
        cases rp with
        | loc hM =>
          rename_i a
          obtain ⟨xs, hS⟩ := isLst_eq hl
          obtain ⟨hI, vs, hH, ra⟩ := R.cell n a _ hM hS
          refine ⟨_, hv, .inl ⟨rfl, vs, SqL.of hH⟩, (fun v H1 => rAppend (.ref a) [v] H1 Q), ⟨I, M, ρ, S, R, sl, ?_⟩, fun v H1 q => q⟩
          · cases e1 : evE C.E t ρ S with
            | ex c S1 => rw [e1] at m; exact m
            | no => rw [e1] at m; exact m
            | ok y S1 =>
              rw [e1] at m
              simp only [Bp.R.bind, appL] at m
              intro I' M' H' u le R' rp
              cases hS1 : S1[n]? with
              | none => rw [hS1] at m; exact m.elim
              | some cl =>
                rw [hS1] at m
                cases cl <;> first | exact m.elim | skip
                rename_i ys
                simp only at m
                by_cases hz : ys.length < sizeLine
                · rw [if_pos hz] at m
                  obtain ⟨hI2, us, hH2, ra2⟩ := R'.cell n a _ (le.m _ _ hM) hS1
                  refine ⟨a, us, u, rfl, rfl, hH2, by rw [ra2.length]; exact hz, ?_⟩
                  have R2 := R'.write (c' := .lst (ys ++ [y])) (o := .lst (us ++ [u])) (le.m _ _ hM) hS1 rfl rfl fun H2 h2 => ⟨hI2, _, h2, ra2.append (.cons rp .nil)⟩
                  exact m _ _ _ _ le R2 .non
                · rw [if_neg hz] at m; exact m.elim
      · rw [if_neg hl] at m; exact m.elim
  · cases h'
/-! ### comprehensions -/
theorem i_it1 (k : I1) {a : T} (ha : SE B a) : SI B (.it1 k a) := by
  intro C X W tg e c h
  have h' : (match splitI1 C k e with | some x => (!pairs1 k || isTupE tg) && chkE C a x | none => false) = true := h
  split at h'
  · rename_i x hx
    simp only [Bool.and_eq_true] at h'
    have hp : k = .enum → ∃ elts kk tp, tg = .Tuple elts kk tp := fun z => by
      subst z
      have := h'.1
      cases tg <;> first | (exact ⟨_, _, _, rfl⟩) | (exact absurd this Bool.false_ne_true)
    refine PI.imp (si1 (B := B) c.toCtx hx hp (ha C X W x c h'.2)) ?_
    rintro σ H Z ⟨I, M, ρ, S, R, sl, m⟩
    refine ⟨I, M, ρ, S, R, sl, ?_⟩
    simp only [evI] at m
    cases e1 : evE C.E a ρ S with
    | ex c S1 => rw [e1] at m; exact m
    | no => rw [e1] at m; exact m
    | ok d S1 =>
      rw [e1] at m
      simp only [Bp.R.bind] at m
      intro I' M' H' v le R' rp
      by_cases hl : ∃ n, d = .loc n
      · obtain ⟨n, rfl⟩ := hl
        exact m.elim
      · have m' : (match Bp.R.opt (evI1 k d) S1 with
          | .ok ds S' => ∀ I' M' H' J, Le I M I' M' → Rel X.K B I' M' S' H' → WalkD X.K B I' M' ds J → Z J H'
          | .ex c S' => exP X.K B I M S' (W c σ)
          | .no => False) := by
          cases d <;> first | exact m | exact absurd ⟨_, rfl⟩ hl
        simp only [Bp.R.opt] at m'
        cases e2 : evI1 k d with
        | none => rw [e2] at m'; exact m'.elim
        | some ds =>
          rw [e2] at m'
          exact ⟨I', M', S1, d, ds, R', rp, fun n q => hl ⟨n, q⟩, e2, fun J w => m' _ _ _ _ le R' w⟩
  · cases h'
def rI2 (K : PySem.W.Frag) (B : Fm) (f : D → D → Option (List D)) : V → V → Hp → (It → Hp → Prop) → Prop := fun x y H Z => ∃ I M S d e ds, Rel K B I M S H ∧ Rp K I M x d ∧ Rp K I M y e ∧ f d e = some ds ∧ ∀ J, WalkD K B I M ds J → Z J H
theorem walk_zipT {K : PySem.W.Frag} {a b : Addr} {xs ys : List V} {n : Nat} (hn : n = min xs.length ys.length) : Walk (RZ.ItzT K a b) n (fun H => SqT K H a xs ∧ SqT K H b ys) (YPair (fun i => xs[i]?) (fun i => ys[i]?)) := by
  subst hn
  constructor
  · intro i H hi q
    have h1 : i < xs.length := Nat.lt_of_lt_of_le hi (Nat.min_le_left _ _)
    have h2 : i < ys.length := Nat.lt_of_lt_of_le hi (Nat.min_le_right _ _)
    exact ⟨xs, ys, xs[i], ys[i], q.1, q.2, List.getElem?_eq_getElem h1, List.getElem?_eq_getElem h2⟩
  · intro H q
    refine ⟨xs, ys, q.1, q.2, ?_⟩
    rcases Nat.le_total xs.length ys.length with z | z
    · exact .inl (by rw [Nat.min_eq_left z]; exact Nat.le_refl _)
    · exact .inr (by rw [Nat.min_eq_right z]; exact Nat.le_refl _)
  · rintro i H v H' hi q ⟨T, x, z, h1, h2, h3, h4, h5⟩
    exact ⟨T, x, z, h1, h2, h3, h4 xs q.1, h5 ys q.2⟩
theorem zipD_len : ∀ xs ys : List D, (zipD xs ys).length = min xs.length ys.length
  | [], ys => by simp [zipD]
  | x :: xs, [] => by simp [zipD]
  | x :: xs, y :: ys => by simp [zipD, zipD_len xs ys]
theorem zipD_get : ∀ {xs ys : List D} {i : Nat} {d : D}, (zipD xs ys)[i]? = some d → ∃ x y, xs[i]? = some x ∧ ys[i]? = some y ∧ d = .tup [x, y]
  | [], ys, i, d, h => by simp [zipD] at h
  | x :: xs, [], i, d, h => by simp [zipD] at h
  | x :: xs, y :: ys, 0, d, h => by
    simp [zipD] at h
    exact ⟨x, y, rfl, rfl, h.symm⟩
  | x :: xs, y :: ys, i + 1, d, h => by
    simp only [zipD, List.getElem?_cons_succ] at h
    obtain ⟨a, b, h1, h2, h3⟩ := zipD_get h
    exact ⟨a, b, by simpa using h1, by simpa using h2, h3⟩
theorem zip_yd {K : PySem.W.Frag} {I : Hp} {M : List Addr} {vs us : List V} {xs ys : List D} (r1 : RpA K I M vs xs) (r2 : RpA K I M us ys) : ∀ (i : Nat) d H x H', (zipD xs ys)[i]? = some d → YPair (fun i => vs[i]?) (fun i => us[i]?) i H x H' → Yd K I M d H x H' := by
  rintro i d H x H' hd ⟨T, a, b, rfl, hT, rfl, ha, hb⟩
  obtain ⟨p, q, h1, h2, rfl⟩ := zipD_get hd
  obtain ⟨p', e1, rp⟩ := r1.getV ha
  obtain ⟨q', e2, rq⟩ := r2.getV hb
  rw [h1] at e1; cases e1
  rw [h2] at e2; cases e2
  exact .inr (.inl ⟨T, [a, b], [p, q], rfl, rfl, hT, rfl, .cons rp (.cons rq .nil)⟩)
theorem si2 {C : Cg} {X : Cx} (c : Ctx C X) {k : I2} {tg e x y : Expr} {tx ty : TE} (h : splitI2 C k e = some (x, y)) (hp : k = .zip → ∃ elts kk tp, tg = .Tuple elts kk tp) (hx : PE X x tx) (hy : PE X y ty) : PI X tg e (fun σ H Z => tx σ H fun v H1 => ty σ H1 fun u H2 => rI2 X.K B (evI2 k) v u H2 Z) := by
  unfold splitI2 at h
  split at h
  · rename_i f p x' y' pos
    split at h
    · rename_i hh
      cases h
      obtain ⟨rfl, hg, n1, n2⟩ := hh
      refine PI.imp (pi_range2 (c.gl hg) (c.blt _ (by decide +kernel)) (pa_cons (Bp.PE.mo hx) (pa_cons (Bp.PE.mo hy) pa_nil (ns_star n2 _ _)) (ns_star n1 _ _)) (by rw [ns_star n1, ns_star n2]; rfl) (ns_star n2 _ _)) ?_
      intro σ H Z q
      refine ⟨_, q, ?_⟩
      intro v H1 q1
      refine ⟨_, q1, ?_⟩
      rintro u H2 ⟨I, M, S, d, e, ds, R, rx, ry, hf, k⟩
      cases rx <;> cases ry <;> simp only [evI2, reduceCtorEq] at hf
      rename_i a b
      split at hf
      · rename_i hn
        cases hf
        refine ⟨a, b, rfl, (by rw [Bool.and_eq_true] at hn; exact ⟨(smallI_ok hn.1).1, (smallI_ok hn.1).2, (smallI_ok hn.2).1, (smallI_ok hn.2).2⟩), k _ ⟨_, _, by rw [List.length_map, List.length_range]; exact walk_range, fun _ _ _ _ _ _ => trivial, ?_⟩⟩
        rintro i d H x H' hd ⟨rfl, rfl⟩
        rw [List.getElem?_map] at hd
        cases e : (List.range (b - a).toNat)[i]? with
        | none => rw [e] at hd; cases hd
        | some j =>
          rw [e] at hd
          obtain ⟨h1, h2⟩ := List.getElem?_eq_some_iff.mp e
          rw [List.getElem_range] at h2
          subst h2
          cases hd
          exact .inl ⟨rfl, .int _⟩
      · cases hf
    · cases h
  · rename_i f p x' y' pos
    split at h
    · rename_i hh
      cases h
      obtain ⟨rfl, hg, n1, n2⟩ := hh
      obtain ⟨elts, kk, tp, rfl⟩ := hp rfl
      have hpl : ∀ pos : Pos, (backTo pos (starEach [y] X.env)).any (·.1) = false := fun pos => by rw [ns_star n2]; rfl
      refine PI.imp (RZ.pi_zipA (c.gl hg) (c.blt _ (by decide +kernel)) (pa_cons (Bp.PE.mo hx) (pa_cons (Bp.PE.mo hy) pa_nil (ns_star n2 _ _)) (ns_star n1 _ _)) (ns_star n1 _ _) (hpl _)) ?_
      intro σ H Z q
      refine ⟨_, q, ?_⟩
      intro v H1 q1
      refine ⟨_, q1, ?_⟩
      rintro u H2 ⟨I, M, S, d, e, ds, R, rx, ry, hf, k⟩
      cases rx <;> cases ry <;> simp only [evI2, seqOf, Option.bind, Option.map, reduceCtorEq] at hf
      · rename_i a xs es g1 g2 b ys fs g3 g4
        cases hf
        refine ⟨a, b, xs, ys, rfl, .inr ⟨SqT.of (R.pl _ _ g1 rfl), SqT.of (R.pl _ _ g3 rfl), k _ ⟨fun H => SqT X.K H a xs ∧ SqT X.K H b ys, _, by rw [zipD_len, ← g2.length, ← g4.length]; exact walk_zipT (xs := xs) (ys := ys) rfl, fun I' M' S' H' le R' => ⟨SqT.of (R'.pl _ _ (le.i _ _ g1) rfl), SqT.of (R'.pl _ _ (le.i _ _ g3) rfl)⟩, zip_yd g2 g4⟩⟩⟩
      · rename_i a xs es g1 g2 b ys fs g3 g4
        cases hf
        refine ⟨a, b, xs, ys, rfl, .inl ⟨SqL.of (R.pl _ _ g1 rfl), SqL.of (R.pl _ _ g3 rfl), k _ ⟨fun H => SqL X.K H a xs ∧ SqL X.K H b ys, _, by rw [zipD_len, ← g2.length, ← g4.length]; exact walk_zip (xs := xs) (ys := ys) rfl, fun I' M' S' H' le R' => ⟨SqL.of (R'.pl _ _ (le.i _ _ g1) rfl), SqL.of (R'.pl _ _ (le.i _ _ g3) rfl)⟩, zip_yd g2 g4⟩⟩⟩
    · cases h
  · cases h
theorem i_it2 (k : I2) {a b : T} (ha : SE B a) (hb : SE B b) : SI B (.it2 k a b) := by
  intro C X W tg e c h
  have h' : (match splitI2 C k e with | some (x, y) => (!pairs2 k || isTupE tg) && chkE C a x && chkE C b y | none => false) = true := h
  split at h'
  · rename_i x y hx
    simp only [Bool.and_eq_true] at h'
    have hp : k = .zip → ∃ elts kk tp, tg = .Tuple elts kk tp := by
      rintro rfl
      have z := h'.1.1
      cases tg <;> first | exact ⟨_, _, _, rfl⟩ | (cases z; done)
    refine PI.imp (si2 (B := B) c.toCtx hx hp (ha C X W x c h'.1.2) (hb C X W y c h'.2)) ?_
    rintro σ H Z ⟨I, M, ρ, S, R, sl, m⟩
    refine ⟨I, M, ρ, S, R, sl, ?_⟩
    simp only [evI] at m
    cases e1 : evE C.E a ρ S with
    | ex c S1 => rw [e1] at m; exact m
    | no => rw [e1] at m; exact m
    | ok d S1 =>
      rw [e1] at m
      simp only [Bp.R.bind] at m
      refine fun I1 M1 H1 v le R1 rp => ⟨I1, M1, ρ, S1, R1, sl.mono le, ?_⟩
      cases e2 : evE C.E b ρ S1 with
      | ex c S2 => rw [e2] at m; exact exP.mono m le
      | no => rw [e2] at m; exact m
      | ok d2 S2 =>
        rw [e2] at m
        simp only [Bp.R.opt] at m
        intro I2 M2 H2 u le2 R2 rp2
        cases e3 : evI2 k d d2 with
        | none => rw [e3] at m; exact m.elim
        | some ds =>
          rw [e3] at m
          exact ⟨I2, M2, S2, d, d2, ds, R2, rp.mono le2, rp2, e3, fun J w => m _ _ _ _ (le.trans le2) R2 w⟩
  · cases h'
end
end Bp

namespace Bp
open PySem L2
section
variable {B : Fm}
theorem e_bad : SE B .bad := by
  intro C X W e c h
  refine ⟨fun pins s σ H Q I q => ?_⟩
  obtain ⟨_, _, _, _, _, _, m⟩ := q
  exact m.elim
theorem e_extd (i : Nat) {t : T} (ht : SE B t) : SE B (.extd i t) := by
  intro C X W e c h
  have h' : (match (generalizing := false) e with
    | .Call (.Attribute (.Name x _) m apos) [y] [] cpos => okSlot C i x && decide (m = ("extend" : Str)) && ns y && (apos.endLine == cpos.line) && chkE C t y
    | _ => false) = true := h
  split at h'
  · rename_i x px m apos y cpos
    simp only [Bool.and_eq_true, decide_eq_true_eq] at h'
    obtain ⟨⟨⟨⟨h1, rfl⟩, h3⟩, h4⟩, h5⟩ := h'
    have few : ((backTo cpos (starEach [y] X.env)).all (fun x => !x.1) && (backToKw cpos (keywordEach [] X.env)).all (fun x => x.1.isSome) && decide (([y] : List Expr).length + ([] : List Keyword).length + (if ([] : List Keyword).isEmpty then 0 else 1) < 30)) = true := by
      rw [ns_star h3]
      rfl
    refine PE.imp (pe_bm PySem.F.plainAttrs_list PySem.F.slot_list_extend PySem.F.type_list_extend mt_extend (okSlot_pe c.toCtx (i := i) (pos := px) h1) (pa_cons (Bp.PE.mo (ht C X W y c h5)) pa_nil (ns_star h3 _ _)) rfl few h4 (ns_star h3 _ _) rfl) ?_
    rintro σ H Q ⟨I, M, ρ, S, R, sl, m⟩
    simp only [evE] at m
    cases hn : slotLoc ρ i with
    | none => rw [hn] at m; exact m.elim
    | some n =>
      rw [hn] at m
      simp only at m
      by_cases hl : isLst S n = true
      · rw [if_pos hl] at m
        obtain ⟨v, hv, rp⟩ := sl.2 i _ (slotLoc_eq hn)
        cases rp with
        | loc hM =>
          rename_i a
          obtain ⟨xs, hS⟩ := isLst_eq hl
          obtain ⟨hI, vs, hH, ra⟩ := R.cell n a _ hM hS
          refine ⟨_, hv, .inl ⟨rfl, vs, SqL.of hH⟩, (fun v H1 => rExtend (.ref a) [v] H1 Q), ⟨I, M, ρ, S, R, sl, ?_⟩, fun v H1 q => q⟩
          · cases e1 : evE C.E t ρ S with
            | ex c S1 => rw [e1] at m; exact m
            | no => rw [e1] at m; exact m
            | ok y S1 =>
              rw [e1] at m
              simp only [Bp.R.bind, extL] at m
              intro I' M' H' u le R' rp
              have tp := R'.top rp
              cases hS1 : S1[n]? with
              | none => rw [hS1] at m; exact m.elim
              | some cl =>
                rw [hS1] at m
                cases cl <;> first | exact m.elim | skip
                rename_i ys
                generalize res S1 y = y' at m tp
                cases y' <;> first | exact m.elim | skip
                rename_i zs
                simp only at m
                obtain ⟨b, us', rfl, hb, rb⟩ := n_lst tp
                by_cases hz : ys.length + zs.length ≤ sizeLine
                · rw [if_pos hz] at m
                  obtain ⟨hI2, us, hH2, ra2⟩ := R'.cell n a _ (le.m _ _ hM) hS1
                  refine ⟨a, b, us, us', rfl, rfl, hH2, hb, by rw [ra2.length, rb.length]; exact hz, ?_⟩
                  have R2 := R'.write (c' := .lst (ys ++ zs)) (o := .lst (us ++ us')) (le.m _ _ hM) hS1 rfl rfl fun H2 h2 => ⟨hI2, _, h2, ra2.append rb⟩
                  exact m _ _ _ _ le R2 .non
                · rw [if_neg hz] at m; exact m.elim
      · rw [if_neg hl] at m; exact m.elim
  · cases h'
theorem tab0_eq {S : Sto} (h : tab0 S = true) : S[0]? = some Cell.tab := by
  unfold tab0 at h
  split at h
  · assumption
  · cases h
theorem nm_ok (c : Nat) : sOk (nmOf c) = true := by
  unfold nmOf
  split <;> decide +kernel
/-- the place within a lambda -/
theorem Ctx2.lam {C : Cg} {X : Cx} {W : WN} (c : Ctx2 C X W) (K : ToldOk C X) {scope : Scope} {A : Around} {outer : List Env} {s : Shared} {H : Hp} {E : XK} {f c' : Addr} (hr : Room (C.lv - 2) (A.deeper (LamX.lamEnv X scope s.heap.objs.size f c'))) :
    Ctx2 (C.lam scope) (LamX.lamCx X A outer s H E scope f c') (fun c _ H' => E (C.cls c) none H') where
  hN := c.hN
  nd := c.nd
  sc := rfl
  fn := fun x z => by cases z
  calm := rfl
  room := hr
  blt := c.blt
  takes := (takes_of (X := LamX.lamCx X A outer s H E scope f c') (E := E) rfl rfl rfl rfl).imp fun cl d σ H' q => by
    obtain ⟨c, rfl, rfl, z⟩ := q
    exact z
  fns := K.fns
  cons := c.cons
  told := fun z => by cases z
theorem e_told {t : T} (ht : SE B t) : SE B (.told t) := by
  intro C X W e c h
  have h' : (match (generalizing := false) e with
    | .Call (.Name x _) [.Lambda ⟨[], [], none, [], [], none, []⟩ body scope _] [] _ => C.told && decide (x = ("_law_told" : Str)) && glb C x && LamX.lamSB C.sc scope && chkE (C.lam scope) t body
    | _ => false) = true := h
  split at h'
  · rename_i x p body scope lpos pos
    simp only [Bool.and_eq_true, decide_eq_true_eq] at h'
    obtain ⟨⟨⟨⟨h1, rfl⟩, h3⟩, h4⟩, h5⟩ := h'
    have K := c.told h1
    obtain ⟨g, cc, pg, bg, sg, dV, kV, doc, pm, cdv, ct, oc, an, od, osl, Ng, a, k1, k2, k3, k4, k5, k6, k7, k8, k9, k10, k11, k12, k13⟩ := K.call
    have hlv : C.lv - 2 + 2 = C.lv := Nat.sub_add_cancel K.lv
    have hq : X.env.qual ++ "<lambda>" = lamQ := by rw [K.qual]; rfl
    have hr : Room (C.lv - 2 + 2) X.A := by rw [hlv]; exact c.room
    refine PE.imp (LamX.pe_lamcall (T := [(tabL X.K, lamQ)]) (TT := TTn C.cls) (k := C.lv - 2) (P := tabL X.K) (c := cc) (t := fun E => tE (C.lam scope) X.K B (fun c _ H' => E (C.cls c) none H') t)
      (c.gl h3) k1 k2 k3 k4 k5 k6 k7 k8 (by rw [hq]; exact k11) k12 k13 (by rw [hq]; exact List.mem_singleton.mpr rfl) (fun q hq' _ => by rw [hq]; rw [List.mem_singleton.mp hq']) hr (by rw [c.sc]; exact LamX.lamS_by h4) rfl (fun _ _ _ _ _ => rfl)
      (fun A outer s H E f c' hr2 => ht (C.lam scope) _ _ body (c.lam K hr2) h5) (by decide) k9 k10) ?_
    rintro σ H Q ⟨I, M, ρ, S, R, sl, m⟩
    simp only [evE] at m
    by_cases h0 : tab0 S = true
    · rw [if_pos h0] at m
      have hS := tab0_eq h0
      have hl : 0 < M.length := by rw [R.len]; exact (List.getElem?_eq_some_iff.mp hS).1
      obtain ⟨_, e1, tb⟩ := R.cell 0 M[0] .tab (List.getElem?_eq_getElem hl) hS
      rw [e1] at tb
      refine ⟨fun q hq' => by rw [List.mem_singleton.mp hq']; exact tb, fun H1 ex T1 => ?_⟩
      have R1 := R.lam ⟨0, hS⟩ ex (T1 _ (List.mem_singleton.mpr rfl))
      refine ⟨I, M, ρ, S, R1, sl, ?_⟩
      show match evE C.E t ρ S with
        | .ok d S' => okP X.K B I M d S' Q
        | .ex c S' => exP X.K B I M S' _
        | .no => False
      cases e2 : evE C.E t ρ S with
      | ok d S1 => rw [e2] at m; exact m
      | no => rw [e2] at m; exact m.elim
      | ex cn S1 =>
        rw [e2] at m
        simp only at m
        by_cases hc : cn < 10
        · rw [if_pos hc] at m
          exact fun I' M' H' le R' => ⟨cn, hc, rfl, rfl, fun H2 hs => m I' M' H2 _ le (R'.call (I' := I') hs (Same.refl _) (fun a o h => .inl h) (fun a o h => (R'.sub a o h).same hs)).1 (.str (nm_ok cn))⟩
        · rw [if_neg hc] at m; exact m.elim
    · rw [if_neg h0] at m; exact m.elim
  · cases h'
end
end Bp

namespace Bp
open PySem L2
/-! ### dicts -/
section
variable {B : Fm}
theorem isDic_at {K : PySem.W.Frag} {I : Hp} {M : List Addr} {H : Hp} {v : V} {d : D} (t : Tp K I M H v d) (h : isDic d = true) : ∃ a, v = .ref a ∧ IsD H a := by
  cases t <;> first | (cases h; done) | skip
  · rename_i a kvs ks ds h1 h2 h3; exact ⟨a, rfl, .inl ⟨kvs, h1⟩⟩
  · rename_i a kvs ks ds h1 h2 h3; exact ⟨a, rfl, .inr ⟨kvs, h1⟩⟩
theorem dGet_at {K : PySem.W.Frag} {I : Hp} {M : List Addr} {H : Hp} {a : Addr} {y : V} {d k : D} {o : Option D} (h : dGet d k = some o) (rx : Tp K I M H (.ref a) d) (ry : Tp K I M H y k) : ∃ ov, DGet H a y ov ∧ ∀ {z : V} {w : D}, Rp K I M z w → Rp K I M (ov.getD z) (o.getD w) := by
  cases o with
  | none =>
    obtain ⟨a', e, g⟩ := dGet_none h rx ry
    cases e
    exact ⟨none, g, fun r => r⟩
  | some w =>
    obtain ⟨a', v, e, g, rp⟩ := dGet_some h rx ry
    cases e
    exact ⟨some v, g, fun _ => rp⟩
theorem e_dget {a k x : T} (ha : SE B a) (hk : SE B k) (hx : SE B x) : SE B (.dget a k x) := by
  intro C X W e c h
  have h' : (match (generalizing := false) e with
    | .Call (.Attribute (.Name y p) m apos) [e1] [] cpos => x.isNil && decide (m = ("get" : Str)) && ns e1 && (apos.endLine == cpos.line) && chkE C a (.Name y p) && chkE C k e1
    | .Call (.Attribute (.Name y p) m apos) [e1, e2] [] cpos => !x.isNil && decide (m = ("get" : Str)) && ns e1 && ns e2 && (apos.endLine == cpos.line) && chkE C a (.Name y p) && chkE C k e1 && chkE C x e2
    | _ => false) = true := h
  have hu : X.A.units + 1 < cLine := hu_of c.room
  split at h'
  · rename_i y p m apos e1 cpos
    simp only [Bool.and_eq_true, decide_eq_true_eq] at h'
    obtain ⟨⟨⟨⟨⟨h0, rfl⟩, h3⟩, h4⟩, h5⟩, h6⟩ := h'
    refine PE.imp (pe_dget1 hu (ha C X W _ c h5) (hk C X W e1 c h6) ⟨rfl, by rw [ns_star h3]; rfl, h4, by rw [ns_star h3]; rfl⟩) ?_
    rintro σ H Q ⟨I, M, ρ, S, R, sl, mm⟩
    refine ⟨I, M, ρ, S, R, sl, ?_⟩
    simp only [evE] at mm
    cases q1 : evE C.E a ρ S with
    | ex c S1 => rw [q1] at mm; exact mm
    | no => rw [q1] at mm; exact mm
    | ok d S1 =>
      rw [q1] at mm
      simp only [Bp.R.bind] at mm
      intro I1 M1 H1 v le1 R1 rp1
      by_cases hd : isDic (res S1 d) = true
      · rw [if_pos hd] at mm
        obtain ⟨ad, rfl, isd⟩ := isDic_at (R1.top rp1) hd
        refine ⟨ad, rfl, isd, I1, M1, ρ, S1, R1, sl.mono le1, ?_⟩
        cases q2 : evE C.E k ρ S1 with
        | ex c S2 => rw [q2] at mm; exact exP.mono mm le1
        | no => rw [q2] at mm; exact mm
        | ok yy S2 =>
          rw [q2] at mm
          simp only [h0, if_true] at mm
          intro I2 M2 H2 u le2 R2 rp2
          cases q3 : dGet (res S2 d) (res S2 yy) with
          | none => rw [q3] at mm; exact mm.elim
          | some o =>
            rw [q3] at mm
            obtain ⟨ov, g, hg⟩ := dGet_at q3 (R2.top (rp1.mono le2)) (R2.top rp2)
            exact ⟨ov, g, mm _ _ _ _ (le1.trans le2) R2 (hg .non)⟩
      · rw [if_neg hd] at mm; exact mm.elim
  · rename_i y p m apos e1 e2 cpos
    simp only [Bool.and_eq_true, decide_eq_true_eq, Bool.not_eq_true'] at h'
    obtain ⟨⟨⟨⟨⟨⟨⟨h0, rfl⟩, h3⟩, h3'⟩, h4⟩, h5⟩, h6⟩, h7⟩ := h'
    refine PE.imp (pe_dget2 hu (ha C X W _ c h5) (hk C X W e1 c h6) (hx C X W e2 c h7) ⟨rfl, by rw [ns_star h3, ns_star h3']; rfl, h4, by rw [ns_star h3, ns_star h3']; rfl⟩) ?_
    rintro σ H Q ⟨I, M, ρ, S, R, sl, mm⟩
    refine ⟨I, M, ρ, S, R, sl, ?_⟩
    simp only [evE] at mm
    cases q1 : evE C.E a ρ S with
    | ex c S1 => rw [q1] at mm; exact mm
    | no => rw [q1] at mm; exact mm
    | ok d S1 =>
      rw [q1] at mm
      simp only [Bp.R.bind] at mm
      intro I1 M1 H1 v le1 R1 rp1
      by_cases hd : isDic (res S1 d) = true
      · rw [if_pos hd] at mm
        obtain ⟨ad, rfl, isd⟩ := isDic_at (R1.top rp1) hd
        refine ⟨ad, rfl, isd, I1, M1, ρ, S1, R1, sl.mono le1, ?_⟩
        cases q2 : evE C.E k ρ S1 with
        | ex c S2 => rw [q2] at mm; exact exP.mono mm le1
        | no => rw [q2] at mm; exact mm
        | ok yy S2 =>
          rw [q2] at mm
          simp only [h0, Bool.false_eq_true, if_false] at mm
          intro I2 M2 H2 u le2 R2 rp2
          refine ⟨I2, M2, ρ, S2, R2, (sl.mono le1).mono le2, ?_⟩
          cases q4 : evE C.E x ρ S2 with
          | ex c S3 => rw [q4] at mm; exact exP.mono mm (le1.trans le2)
          | no => rw [q4] at mm; exact mm
          | ok zz S3 =>
            rw [q4] at mm
            simp only at mm
            intro I3 M3 H3 z le3 R3 rp3
            cases q3 : dGet (res S3 d) (res S3 yy) with
            | none => rw [q3] at mm; exact mm.elim
            | some o =>
              rw [q3] at mm
              obtain ⟨ov, g, hg⟩ := dGet_at q3 (R3.top ((rp1.mono le2).mono le3)) (R3.top (rp2.mono le3))
              exact ⟨ov, g, mm _ _ _ _ ((le1.trans le2).trans le3) R3 (hg rp3)⟩
      · rw [if_neg hd] at mm; exact mm.elim
  · cases h'
theorem e_mkd (tk : Bool) {as : T} : SE B (.mkd tk as) := by
  intro C X W e c h
  have h' : (match (generalizing := false) e with
    | .Dict [] [] _ => as.isNil
    | _ => false) = true := h
  split at h'
  · rename_i pos
    have hn : as = .nil := by cases as <;> first | rfl | cases h'
    subst hn
    have go : ∀ {σ : L2.St} {H : Hp} {Q : VK} {o : HO} {cc : Cell}, dispD tk [] = some cc → cc.isTab = false → (∀ (I : Hp) (M : List Addr) (p : Addr) H2, H2 p = some o → I p = none → CellOk X.K I (M ++ [p]) H2 p cc) → tE C X.K B W (.mkd tk .nil) σ H Q → ∀ p, H p = none → Q (.ref p) (upd H p o) := by
      rintro σ H Q o cc hc ht hok ⟨I, M, ρ, S, R, sl, m⟩ p hp
      simp only [evE, evA, Bp.R.bind, hc] at m
      obtain ⟨R2, le2⟩ := R.alloc (o := o) (c := cc) hp (fun H2 h2 => hok I M p H2 h2 (R.free hp)) ht
      refine m _ _ _ _ le2 R2 (.loc ?_)
      rw [← R.len, List.getElem?_append_right (Nat.le_refl _)]
      simp
    cases tk with
    | true => exact PE.imp pe_dnewT fun σ H Q q => go (cc := .dT [] []) rfl rfl (fun I M p H2 h2 hI => ⟨hI, [], h2, ⟨rfl, rfl⟩, .nil⟩) q
    | false => exact PE.imp pe_dnewK fun σ H Q q => go (cc := .dK [] []) rfl rfl (fun I M p H2 h2 hI => ⟨hI, [], h2, ⟨rfl, rfl⟩, .nil⟩) q
  · cases h'
/-! ### storing -/
theorem repl_rel {κ : Type} [DecidableEq κ] {K : PySem.W.Frag} {I : Hp} {M : List Addr} {q : κ} {v : V} {z : D} (rz : Rp K I M v z) : ∀ {kvs : List (κ × V)} {vs : List D}, RpA K I M (kvs.map (·.2)) vs →
    RpA K I M ((kvs.map fun kv => if kv.1 = q then (kv.1, v) else kv).map (·.2)) (replD q z (kvs.map (·.1)) vs)
  | [], _, r => by cases r; exact .nil
  | p :: kvs, _, r => by
    cases r with
    | cons a b =>
      have ih := repl_rel rz (q := q) b
      simp only [List.map_cons, replD]
      by_cases e : p.1 = q
      · rw [if_pos e, if_pos e]; exact .cons rz ih
      · rw [if_neg e, if_neg e]; exact .cons a ih
theorem put_rel {κ : Type} [DecidableEq κ] {K : PySem.W.Frag} {I : Hp} {M : List Addr} {q : κ} {v : V} {z : D} (rz : Rp K I M v z) {kvs : List (κ × V)} {ks : List κ} {vs : List D} (hk : kvs.map (·.1) = ks) (ra : RpA K I M (kvs.map (·.2)) vs) :
    (putK kvs q v).map (·.1) = putKs q ks ∧ RpA K I M ((putK kvs q v).map (·.2)) (putVs q z ks vs) := by
  subst hk
  have ea : ((kvs.map (·.1)).any fun k' => decide (k' = q)) = kvs.any fun kv => decide (kv.1 = q) := by rw [List.any_map]; rfl
  unfold putK putKs putVs
  rw [ea]
  by_cases h : (kvs.any fun kv => decide (kv.1 = q)) = true
  · rw [if_pos h, if_pos h, if_pos h]
    refine ⟨?_, repl_rel rz ra⟩
    rw [List.map_map]
    refine List.map_congr_left fun kv _ => ?_
    show (if kv.1 = q then (kv.1, v) else kv).1 = kv.1
    split <;> rfl
  · rw [if_neg h, if_neg h, if_neg h, List.map_append, List.map_append]
    exact ⟨rfl, ra.append (.cons rz .nil)⟩
theorem putKs_all {κ : Type} [DecidableEq κ] {P : κ → Bool} {q : κ} {ks : List κ} (h : ks.all P = true) (hq : P q = true) : (putKs q ks).all P = true := by
  unfold putKs
  split
  · exact h
  · rw [List.all_append, h]; simp [hq]
theorem keyOf_ok {K : PySem.W.Frag} {I : Hp} {M : List Addr} {H : Hp} {d : D} {k : Key} {v : V} (h : keyOf d = some k) (r : Tp K I M H v d) : kOk k = true := by
  cases r <;> simp only [keyOf, Option.some.injEq, reduceCtorEq] at h
  · subst h; rfl
  · rename_i hs; subst h; exact hs
theorem keysOf_ok {K : PySem.W.Frag} {I : Hp} {M : List Addr} : ∀ {ds : List D} {ks : List Key} {vs : List V}, keysOf ds = some ks → RpA K I M vs ds → ks.all kOk = true
  | [], _, _, h, r => by cases h; rfl
  | d :: ds, ks, _, h, r => by
    cases r with
    | cons a b =>
      simp only [keysOf] at h
      cases e : keyOf d with
      | none => rw [e] at h; cases h
      | some q =>
        rw [e] at h
        cases e2 : keysOf ds with
        | none => rw [e2] at h; cases h
        | some qs =>
          rw [e2] at h
          cases h
          rw [List.all_cons, keysOf_ok e2 b, Bool.and_true]
          cases a <;> simp only [keyOf, Option.some.injEq, reduceCtorEq] at e
          · subst e; rfl
          · rename_i hs; subst e; exact hs
theorem isPut_eq {S : Sto} {n : Nat} (h : isPut S n = true) : (∃ ks vs, S[n]? = some (.dK ks vs)) ∨ ∃ ks vs, S[n]? = some (.dT ks vs) := by
  unfold isPut at h
  split at h
  · rename_i hh; exact .inl ⟨_, _, hh⟩
  · rename_i hh; exact .inr ⟨_, _, hh⟩
  · cases h
theorem isPutT_eq {S : Sto} {n : Nat} (h : isPutT S n = true) : ∃ ks vs, S[n]? = some (.dT ks vs) := by
  unfold isPutT at h
  split at h
  · rename_i hh; exact ⟨_, _, hh⟩
  · cases h
theorem put_ok {K : PySem.W.Frag} {I : Hp} {M : List Addr} {S S' : Sto} {H : Hp} (R : Rel K B I M S H) {n : Nat} {a : Addr} {u v : V} {y z : D} (hM : M[n]? = some a) (hp : isPut S n = true) (e : putS S n y z = some S') (ry : Tp K I M H u y) (rz : Rp K I M v z) : ∃ H', DPut H a u v H' ∧ Rel K B I M S' H' := by
  rcases isPut_eq hp with ⟨ks, vs, hS⟩ | ⟨ks, vs, hS⟩
  · unfold putS at e
    rw [hS] at e
    simp only at e
    split at e
    · rename_i hl
      cases ek : keyOf y with
      | none => rw [ek] at e; cases e
      | some q =>
        rw [ek] at e
        cases e
        obtain ⟨hI, kvs, hH, hk, ra⟩ := R.cell n a _ hM hS
        have lk : kvs.length = ks.length := by rw [← hk.1, List.length_map]
        obtain ⟨p1, p2⟩ := put_rel (q := q) rz hk.1 ra
        refine ⟨_, ?_, R.write (c' := .dK (putKs q ks) (putVs q z ks vs)) (o := .dK (putK kvs q v)) hM hS rfl rfl fun H2 h2 => ⟨hI, _, h2, ⟨p1, putKs_all hk.2 (keyOf_ok ek ry)⟩, p2⟩⟩
        rw [keyOf_top ek ry]
        exact DPut.k hH (by omega)
    · cases e
  · unfold putS at e
    rw [hS] at e
    cases ry <;> simp only [reduceCtorEq] at e
    rename_i b us es h1 h2 h3
    split at e
    · rename_i hl
      cases ek : keysOf es with
      | none => rw [ek] at e; cases e
      | some q =>
        rw [ek] at e
        cases e
        obtain ⟨hI, kvs, hH, hk, ra⟩ := R.cell n a _ hM hS
        have lk : kvs.length = ks.length := by rw [← hk.1, List.length_map]
        obtain ⟨p1, p2⟩ := put_rel (q := q) rz hk.1 ra
        refine ⟨_, ?_, R.write (c' := .dT (putKs q ks) (putVs q z ks vs)) (o := .dT (putK kvs q v)) hM hS rfl rfl fun H2 h2 => ⟨hI, _, h2, ⟨p1, putKs_all hk.2 (keysOf_ok ek h3)⟩, p2⟩⟩
        rw [keysOf_map ek h3] at h2
        exact DPut.t hH h2 (by omega)
    · cases e
/-! ### setdefault, the keys tuples -/
def tSetdT (td ty tx : TE) : TE := fun σ H Q => td σ H fun x H1 => ∃ a, x = .ref a ∧ IsD H1 a ∧ ty σ H1 fun y H2 => tx σ H2 fun z H3 => ∃ (kvs : List (List Key × V)) (k : List Key) (b : Addr), H3 a = some (.dT kvs) ∧ y = .ref b ∧ H3 b = some (.tup (k.map kV)) ∧ kvs.length < sizeLine ∧
  (∀ v, valV kvs k = some v → Q v H3) ∧ (valV kvs k = none → Q z (upd H3 a (.dT (putK kvs k z))))
theorem pe_setdT {X : Cx} {o e f : Expr} {apos cpos : Pos} {td ty tx : TE} (hu : X.A.units + 1 < cLine) (ho : PE X o td) (he : PE X e ty) (hf : PE X f tx) (m : M2 X o "setdefault" apos e f cpos) : PE X (.Call (.Attribute o "setdefault" apos) [e, f] [] cpos) (tSetdT td ty tx) := by
  refine ⟨fun pins s σ H Q I h => ?_⟩
  refine wpAny_Call_method m.base m.few m.line PySem.F.plainAttrs_dict PySem.F.slot_dict_setdefault PySem.F.type_dict_setdefault (thn (ho.run pins s σ H _ I h) fun u s1 ⟨x, H1, I1, rx, a, ex, d, q1⟩ => ?_)
  subst ex
  obtain rfl : u = Value.ref a := rx
  obtain ⟨t1, t2, t3⟩ := isD_at I1 d
  refine ⟨t1, t2, ?_⟩
  rw [m.trees]
  refine Calls.callWith_builtin rfl (Calls.evalArgs_plain (Calls.spliced_cons (thn (he.run pins s1 σ H1 _ I1 q1) fun iv s2 ⟨y, H2, I2, ry, q2⟩ =>
    Calls.spliced_cons (thn (hf.run pins s2 σ H2 _ I2 q2) fun fv s3 ⟨z, H3, I3, rz, kvs, k, b, ea, ey, eb, hl, q3, q4⟩ => Calls.spliced_nil ?_))))
  subst ey
  cases (show iv = Value.ref b from ry)
  obtain ⟨zz, hd, xs, rel, dd⟩ := dt_of I3.hok ea
  have hz : xs.length ≤ sizeLine := by rw [← Paired.length rel]; exact zz
  have hl2 : (putK kvs k z).length ≤ sizeLine := by have := length_putK kvs k z; omega
  refine call_setdefault_heap (tupleKind_room_in1 hu) (key_of I3.hok eb) hd dd (fun p hp => ?_) (fun hn h' dd' hs => ?_) hz
  · have r := rel.val k
    rw [hp] at r
    cases hv : valV kvs k with
    | none => rw [hv] at r; exact (show False from r).elim
    | some v =>
      rw [hv] at r
      exact ⟨v, H3, I3.tok _, r, q3 v hv⟩
  · have r := rel.val k
    rw [hn] at r
    cases hv : valV kvs k with
    | some v => rw [hv] at r; exact (show False from r).elim
    | none =>
      obtain ⟨q, es, ep, hq, g2, g3, g4, _, g5⟩ := dd'
      refine ⟨z, _, d_write (ob := .dT (putK kvs k z)) I3 (by rw [ea]; exact True.intro) hs ⟨q, hq⟩ ⟨hl2, hd, _, (rel.put k eb rz).keeps fun c ys ec => ?_, q, es, ep, hq, g2, g3, g4, g5⟩, rz, q4 hv⟩
      rw [upd_ne (ne_of ec ea (fun z => nomatch z))]
      exact ec
theorem setd_parts {C : Cg} {i : Nat} {k v : T} {e : Expr} (h : chkE C (.setd i k v) e = true) : ∃ x px apos e1 e2 cpos, e = .Call (.Attribute (.Name x px) "setdefault" apos) [e1, e2] [] cpos ∧ okSlot C i x = true ∧ ns e1 = true ∧ ns e2 = true ∧ (apos.endLine == cpos.line) = true ∧ chkE C k e1 = true ∧ chkE C v e2 = true := by
  have h' : (match (generalizing := false) e with
    | .Call (.Attribute (.Name x _) m apos) [e1, e2] [] cpos => okSlot C i x && decide (m = ("setdefault" : Str)) && ns e1 && ns e2 && (apos.endLine == cpos.line) && chkE C k e1 && chkE C v e2
    | _ => false) = true := h
  split at h'
  · rename_i x px m apos e1 e2 cpos
    simp only [Bool.and_eq_true, decide_eq_true_eq] at h'
    obtain ⟨⟨⟨⟨⟨⟨h1, rfl⟩, h3⟩, h4⟩, h5⟩, h6⟩, h7⟩ := h'
    exact ⟨x, px, apos, e1, e2, cpos, rfl, h1, h3, h4, h5, h6, h7⟩
  · cases h'
theorem e_setd (i : Nat) {k v : T} (hk : SE B k) (hv : SE B v) : SE B (.setd i k v) := by
  intro C X W e c h
  obtain ⟨x, px, apos, e1, e2, cpos, rfl, h1, h3, h4, h5, h6, h7⟩ := setd_parts h
  refine PE.imp (pe_setdT (hu_of c.room) (okSlot_pe c.toCtx (i := i) (pos := px) h1) (hk C X W e1 c h6) (hv C X W e2 c h7) ⟨rfl, by rw [ns_star h3, ns_star h4]; rfl, h5, by rw [ns_star h3, ns_star h4]; rfl⟩) ?_
  rintro σ H Q ⟨I, M, ρ, S, R, sl, m⟩
  simp only [evE] at m
  cases hn : slotLoc ρ i with
  | none => rw [hn] at m; exact m.elim
  | some n =>
    rw [hn] at m
    simp only at m
    by_cases hl : isPutT S n = true
    · rw [if_pos hl] at m
      obtain ⟨vv, hvv, rp⟩ := sl.2 i _ (slotLoc_eq hn)
      cases rp with
      | loc hM =>
        rename_i a
        obtain ⟨ks, ws, hS⟩ := isPutT_eq hl
        obtain ⟨hI, kvs, hH, hkk, ra⟩ := R.cell n a _ hM hS
        refine ⟨_, hvv, a, rfl, .inr ⟨kvs, .inl hH⟩, I, M, ρ, S, R, sl, ?_⟩
        cases q1 : evE C.E k ρ S with
        | ex c S1 => rw [q1] at m; exact m
        | no => rw [q1] at m; exact m
        | ok yy S1 =>
          rw [q1] at m
          simp only [Bp.R.bind] at m
          intro I1 M1 H1 y le1 R1 rp1
          refine ⟨I1, M1, ρ, S1, R1, sl.mono le1, ?_⟩
          cases q2 : evE C.E v ρ S1 with
          | ex c S2 => rw [q2] at m; exact exP.mono m le1
          | no => rw [q2] at m; exact m
          | ok zz S2 =>
            rw [q2] at m
            simp only at m
            intro I2 M2 H2 z le2 R2 rp2
            have le := le1.trans le2
            have hM2 := le.m _ _ hM
            cases hS2 : S2[n]? with
            | none => rw [hS2] at m; exact m.elim
            | some cl =>
              rw [hS2] at m
              cases cl <;> first | exact m.elim | skip
              rename_i ks2 ws2
              simp only at m
              have ty := R2.top (rp1.mono le2)
              generalize res S2 yy = y' at m ty
              cases ty <;> first | exact m.elim | skip
              rename_i b us es g1 g2 g3
              simp only at m
              cases ek : keysOf es with
              | none => rw [ek] at m; exact m.elim
              | some q =>
                rw [ek] at m
                simp only at m
                obtain ⟨hI2, kvs2, hH2, hk2, ra2⟩ := R2.cell n a _ hM2 hS2
                have lk : kvs2.length = ks2.length := by rw [← hk2.1, List.length_map]
                by_cases hz : ks2.length < sizeLine
                · rw [if_pos hz] at m
                  rw [keysOf_map ek g3] at g2
                  refine ⟨kvs2, q, b, hH2, rfl, g2, by omega, fun w hw => ?_, fun hw => ?_⟩
                  · cases el : lookD q ks2 ws2 with
                    | none => rw [(lookD_val hk2.1 ra2).2 el] at hw; cases hw
                    | some d =>
                      rw [el] at m
                      obtain ⟨w', e1, e2⟩ := (lookD_val hk2.1 ra2).1 d el
                      rw [e1] at hw; cases hw
                      exact m _ _ _ _ le R2 e2
                  · cases el : lookD q ks2 ws2 with
                    | some d =>
                      obtain ⟨w', e1, e2⟩ := (lookD_val hk2.1 ra2).1 d el
                      rw [e1] at hw; cases hw
                    | none =>
                      rw [el] at m
                      obtain ⟨p1, p2⟩ := put_rel (q := q) rp2 hk2.1 ra2
                      exact m _ _ _ _ le (R2.write (c' := .dT (putKs q ks2) (putVs q zz ks2 ws2)) (o := .dT (putK kvs2 q z)) hM2 hS2 rfl rfl fun H3 h3 => ⟨hI2, _, h3, ⟨p1, putKs_all hk2.2 (keysOf_ok ek g3)⟩, p2⟩) rp2
                · rw [if_neg hz] at m; exact m.elim
    · rw [if_neg hl] at m; exact m.elim
end
end Bp

namespace Bp
open PySem L2
/-! ### a comprehension -/
theorem wipeR_len (r : Rho) : ∀ vs : List Nat, (wipeR r vs).length = r.length
  | [] => rfl
  | v :: vs => by unfold wipeR; rw [List.length_set, wipeR_len r vs]
theorem wipeR_some {r : Rho} {i : Nat} {d : D} : ∀ {vs : List Nat}, (wipeR r vs)[i]? = some (some d) → r[i]? = some (some d) ∧ i ∉ vs
  | [], h => ⟨h, by simp⟩
  | v :: vs, h => by
    unfold wipeR at h
    by_cases e : v = i
    · subst e
      by_cases hl : v < (wipeR r vs).length
      · rw [List.getElem?_set_self hl] at h; cases h
      · rw [List.getElem?_eq_none (by rw [List.length_set]; omega)] at h; cases h
    · rw [List.getElem?_set_ne e] at h
      obtain ⟨h1, h2⟩ := wipeR_some h
      exact ⟨h1, by simp only [List.mem_cons, not_or]; exact ⟨Ne.symm e, h2⟩⟩
theorem Sl.wipe {K : PySem.W.Frag} {I : Hp} {M : List Addr} {r : Rho} {σ : L2.St} (h : Sl K I M r σ) (vs : List Nat) : Sl K I M (wipeR r vs) (L2.wipe σ vs) := by
  refine ⟨by rw [wipeR_len, wipe_length]; exact h.1, fun i d hd => ?_⟩
  obtain ⟨h1, h2⟩ := wipeR_some hd
  obtain ⟨v, hv, rp⟩ := h.2 i d h1
  exact ⟨v, by rw [wipe_get, if_neg (fun z => h2 z.1)]; exact hv, rp⟩
theorem Ctx2.blk {C : Cg} {X : Cx} {W : WN} (c : Ctx2 C X W) (scope : Scope) (s : Shared) (H : Hp) (Ca : Addr) (cl : List (Str × Addr)) (fp : List Addr) :
    Ctx2 (C.blk scope) (X.blk s H scope (compEnvC scope cl Ca X.env) fp) (fun _ _ _ => False) where
  hN := c.hN
  nd := c.nd
  sc := by
    show relabel scope X.env = relS scope C.sc
    rw [← c.sc]
    rfl
  fn := fun x h => h
  calm := c.calm
  room := c.room
  blt := c.blt
  takes := takes0.imp fun cl d σ H h => by
    obtain ⟨_, _, _, z⟩ := h
    exact z
  fns := c.fns
  cons := c.cons
  told := fun z => by cases z
section
variable {B : Fm}
theorem nset_fold {e : Expr} (h : nset e = true) (env : Env) (x : Value) : foldedSetIterable e env x = pure x := by
  cases e <;> first | rfl | cases h
theorem slots_sub {vs us : List Nat} (h : us.all (fun i => vs.contains i) = true) : ∀ i ∈ us, i ∈ vs := fun i hi => by
  have := List.all_eq_true.mp h i hi
  simpa using this
/-- the turn's value comes in -/
theorem Yd.step {K : PySem.W.Frag} {I0 I : Hp} {M0 M : List Addr} {S : Sto} {H H' : Hp} {d : D} {x : V} (R : Rel K B I M S H) (le : Le I0 M0 I M) (y : Yd K I0 M0 d H x H') : ∃ I', Rel K B I' M S H' ∧ Le I M I' M ∧ Rp K I' M x d ∧ ∀ a o, H a = some o → H' a = some o := by
  rcases y with ⟨rfl, rp⟩ | ⟨T, xs, es, rfl, rfl, hT, rfl, ra⟩ | ⟨rfl, q, k, rfl, rfl, hq, hk⟩ | ⟨T, q, k, v, w, rfl, rfl, hT, hq, hk, rfl, rw⟩
  · exact ⟨I, R, Le.refl, rp.mono le, fun _ _ h => h⟩
  · obtain ⟨R', le'⟩ := R.new (o := .tup xs) hT
    exact ⟨_, R', le', .tup upd_same (ra.mono (le.trans le')), fun a o h => by rw [upd_ne (ne_of_none h hT)]; exact h⟩
  · obtain ⟨I', R', le', hI'⟩ := R.learn hq
    exact ⟨I', R', le', .tup hI' (rp_keys hk), fun _ _ h => h⟩
  · obtain ⟨I', R', le', hI'⟩ := R.learn hq
    obtain ⟨R2, le2⟩ := R'.new (o := .tup [.ref q, v]) hT
    refine ⟨_, R2, le'.trans le2, .tup upd_same (.cons (.tup (le2.i _ _ hI') (rp_keys hk)) (.cons (rw.mono (le.trans (le'.trans le2))) .nil)), fun a o h => by rw [upd_ne (ne_of_none h hT)]; exact h⟩
/-- the frame as of now -/
def Fm.at (B : Fm) (I : Hp) (M : List Addr) (S : Sto) (H : Hp) : Fm := ⟨H, I, fun a => (∃ (n : Nat) (c : Cell), M[n]? = some a ∧ S[n]? = some c ∧ c.mut = true) ∨ (B.t = true ∧ ∃ ps, H a = some (.tbl ps)), B.L, fun _ => False, B.t⟩
theorem Rel.tabMu {K : PySem.W.Frag} {I : Hp} {M : List Addr} {S : Sto} {H : Hp} (R : Rel K B I M S H) {a : Addr} {ps : Array Value} (ht : B.t = true) (h : H a = some (.tbl ps)) : B.Mu a ∨ B.H0 a = none := by
  cases h0 : B.H0 a with
  | none => exact .inr rfl
  | some o =>
    by_cases hm : B.Mu a
    · exact .inl hm
    · rcases R.keep a o h0 hm with ⟨_, q⟩ | ⟨_, ob, q⟩
      · rw [h] at q; cases q; exact .inl ((R.tb ht).1 a _ h0)
      · rw [h] at q; cases q
theorem Rel.rebase {K : PySem.W.Frag} {I : Hp} {M : List Addr} {S : Sto} {H : Hp} (R : Rel K B I M S H) : Rel K (B.at I M S H) I M S H where
  sub := R.sub
  lk := R.lk
  len := R.len
  nd := R.nd
  cell := R.cell
  keep := fun a o h _ => .inl ⟨fun z => z, h⟩
  lkn := fun a z => z.elim
  live := fun a h => .inl h
  own := fun n a c h1 h2 m => .inl (.inl ⟨n, c, h1, h2, m⟩)
  ext := fun a o h => .inl h
  base := Same.refl _
  tb0 := R.tb0
  tb := fun z => ⟨fun a ps h => .inr ⟨z, ps, h⟩, (R.tb z).2⟩
theorem Rel.unbase {K : PySem.W.Frag} {I I' : Hp} {M M' : List Addr} {S S' : Sto} {H H' : Hp} (R : Rel K B I M S H) (R' : Rel K (B.at I M S H) I' M' S' H') : Rel K B I' M' S' H' where
  sub := R'.sub
  lk := R'.lk
  len := R'.len
  nd := R'.nd
  cell := R'.cell
  keep := fun a o h hm => by
    have q := R.keep a o h hm
    have nm : ¬ (B.at I M S H).Mu a := by
      rintro (⟨n, c, h1, h2, m⟩ | ⟨z, ps, h1⟩)
      · rcases R.own n a c h1 h2 m with z | z
        · exact hm z
        · rw [h] at z; cases z
      · rcases R.tabMu z h1 with q | q
        · exact hm q
        · rw [h] at q; cases q
    rcases q with ⟨l, q⟩ | ⟨l, ob, q⟩
    · rcases R'.keep a _ q nm with ⟨_, z⟩ | ⟨z, _⟩
      · exact .inl ⟨l, z⟩
      · exact z.elim
    · rcases R'.keep a _ q nm with ⟨_, z⟩ | ⟨z, _⟩
      · exact .inr ⟨l, ob, z⟩
      · exact z.elim
  lkn := R.lkn
  live := fun a h => by
    rcases R'.live a h with z | ⟨n', c', g1, g2, m'⟩ | ⟨z, ps, h1⟩
    · exact R.live a z
    · exact (R.own n' a c' g1 g2 m').symm
    · exact (R.tabMu z h1).symm
  own := fun n a c h1 h2 m => by
    rcases R'.own n a c h1 h2 m with (⟨n', c', g1, g2, m'⟩ | ⟨z, ps, h1⟩) | z
    · exact R.own n' a c' g1 g2 m'
    · exact R.tabMu z h1
    · exact (R.live a z).symm
  ext := fun a o h => by
    rcases R'.ext a o h with z | ⟨n, z | ⟨n', c', g1, g2, m'⟩ | ⟨z, ps, h1⟩⟩ | z
    · exact R.ext a o z
    · exact .inr (.inl ⟨n, R.live a z⟩)
    · exact .inr (.inl ⟨n, (R.own n' a c' g1 g2 m').symm⟩)
    · exact .inr (.inl ⟨n, (R.tabMu z h1).symm⟩)
    · exact .inr (.inr z)
  base := R.base.trans R'.base
  tb0 := R'.tb0
  tb := fun z => ⟨(R.tb z).1, (R'.tb z).2⟩
/-- what is none of ours is kept -/
theorem Rel.kept {K : PySem.W.Frag} {I I' : Hp} {M M' : List Addr} {S S' : Sto} {H H' : Hp} (R' : Rel K (B.at I M S H) I' M' S' H') {a : Addr} {o : HO} (h : H a = some o) (hm : ∀ n : Nat, M[n]? ≠ some a) (hno : nt o = true := by rfl) : H' a = some o := by
  rcases R'.keep a o h (fun z => by
    rcases z with ⟨n, c, h1, _⟩ | ⟨_, ps, z⟩
    · exact hm n h1
    · rw [h] at z; cases z; cases hno) with ⟨_, z⟩ | ⟨z, _⟩
  · exact z
  · exact z.elim
theorem Rel.keptI {K : PySem.W.Frag} {I I' : Hp} {M M' : List Addr} {S S' : Sto} {H H' : Hp} (R' : Rel K (B.at I M S H) I' M' S' H') {a : Addr} {o : HO} (h : H a = some o) (hI : I a = none) (hm : ∀ n : Nat, M[n]? ≠ some a) (hno : nt o = true := by rfl) (hto : isTo o = false := by rfl) : I' a = none := by
  cases e : I' a with
  | none => rfl
  | some u =>
    rcases R'.ext a u e with z | ⟨_, z | ⟨n, c, h1, _⟩ | ⟨_, ps, z⟩⟩ | z
    · rw [show I a = some u from z] at hI; cases hI
    · rw [show H a = none from z] at h; cases h
    · exact absurd h1 (hm n)
    · rw [show H a = _ from z] at h; cases h; cases hno
    · exfalso
      have k := R'.kept h hm hno
      rcases R'.sub a u e with ⟨_, g⟩ | ⟨l, _⟩
      · rw [k] at g; cases g; rw [hto] at z; cases z
      · obtain ⟨u', e', d'⟩ := R'.lk a l
        rw [e] at e'; cases e'
        cases u <;> first | (cases z; done) | (cases d'; done)
theorem Rel.keptM {K : PySem.W.Frag} {I I' : Hp} {M M' : List Addr} {S S' : Sto} {H H' : Hp} (R' : Rel K (B.at I M S H) I' M' S' H') {a : Addr} {o : HO} (h : H a = some o) (hI : I a = none) (hm : ∀ n : Nat, M[n]? ≠ some a) (hno : nt o = true := by rfl) (hto : isTo o = false := by rfl) : ∀ n : Nat, M'[n]? ≠ some a := by
  intro n e
  obtain ⟨c, u, hc, hu⟩ := R'.there e
  cases hmut : c.mut with
  | true =>
    rcases R'.own n a c e hc hmut with (⟨n', c', h1, _⟩ | ⟨_, ps, z⟩) | z
    · exact hm n' h1
    · rw [show H a = _ from z] at h; cases h; cases hno
    · rw [show H a = none from z] at h; cases h
  | false =>
    have ck := R'.cell n a c e hc
    cases c <;> first | (cases hmut; done) | skip
    obtain ⟨_, o', ho'⟩ := ck
    rw [R'.keptI h hI hm hno hto] at ho'
    cases ho'
/-- a thing that is none of ours taken out -/
theorem Rel.drop {K : PySem.W.Frag} {I : Hp} {M : List Addr} {S : Sto} {H : Hp} (R : Rel K B I M S H) {D : Addr} (hI : I D = none) (hm : ∀ n : Nat, M[n]? ≠ some D) (h0 : B.H0 D = none ∨ B.Mu D) (hD : ∀ u, H D = some u → isCl u = true) : Rel K B I M S (fun b => if b = D then none else H b) := by
  have at' : ∀ {L : Addr → Prop} {a : Addr} {o : HO}, a ≠ D → At L H a o → At L (fun b => if b = D then none else H b) a o := fun {L a o} ne h => by
    rcases h with ⟨l, h⟩ | ⟨l, ob, h⟩
    · exact .inl ⟨l, by simp only [if_neg ne]; exact h⟩
    · exact .inr ⟨l, ob, by simp only [if_neg ne]; exact h⟩
  refine ⟨fun a o h => at' (fun z => by rw [z, hI] at h; cases h) (R.sub a o h), R.lk, R.len, R.nd, fun n a c h1 h2 => ?_, fun a o h hmu => at' (fun z => by
    rcases h0 with q | q
    · rw [z, q] at h; cases h
    · rw [z] at hmu; exact hmu q) (R.keep a o h hmu), R.lkn, fun a h => ?_, R.own, R.ext, R.base, R.tb0, R.tb⟩
  · have ne : a ≠ D := fun z => hm n (by rw [h1, z])
    exact (R.cell n a c h1 h2).stay Le.refl (fun m => (R.cell n a c h1 h2).free m) (fun _ => by simp only [if_neg ne]) (fun b u h z => by
      have nb : b ≠ D := fun e => by rw [e] at h; rw [hD u h] at z; cases z
      simp only [if_neg nb]; exact h)
  · by_cases e : a = D
    · rw [e]; exact h0
    · simp only [if_neg e] at h; exact R.live a h
theorem upd_drop {H : Hp} {D : Addr} {o : HO} (h : H D = some o) : upd (fun b => if b = D then none else H b) D o = H := by
  funext b
  unfold upd
  by_cases e : b = D
  · subst e; rw [if_pos rfl]; exact h.symm
  · simp only [if_neg e]
theorem PE.ex {X : Cx} {e : Expr} {α : Type} {t : α → TE} (h : ∀ a, PE X e (t a)) : PE X e (fun σ H Q => ∃ a, t a σ H Q) := ⟨fun pins s σ H Q I ⟨a, q⟩ => (h a).run pins s σ H Q I q⟩
theorem PT.ex {X : Cx} {e : Expr} {α : Type} {t : α → TT} (h : ∀ a, PT X e (t a)) : PT X e (fun σ H Q => ∃ a, t a σ H Q) := ⟨fun pins s σ H Q I ⟨a, q⟩ => (h a).run pins s σ H Q I q⟩
theorem PG.ex {X : Cx} {e : Expr} {α : Type} {t : α → TG} (h : ∀ a, PG X e (t a)) : PG X e (fun v σ H Q => ∃ a, t a v σ H Q) := ⟨fun pins s σ H v u Q I r ⟨a, q⟩ => (h a).run pins s σ H v u Q I r q⟩
/-- the readings of a comprehension's parts, each under a frame of its own -/
def gX (K : PySem.W.Frag) (tg : Tg) : TG := fun v σ H Q => ∃ B : Fm, tG K B tg v σ H Q
def cX (C : Cg) (K : PySem.W.Frag) (c : T) : TT := fun σ H Q => (c.isNil = true ∧ Q true H) ∨ (c.isNil = false ∧ ∃ B : Fm, tT C K B (fun _ _ _ => False) c σ H Q)
def eX (C : Cg) (K : PySem.W.Frag) (e : T) : TE := fun σ H Q => ∃ B : Fm, tE C K B (fun _ _ _ => False) e σ H Q
theorem xc_parts {C : Cg} {vs : List Nat} {tg : Tg} {it c e : T} {ex : Expr} (h : chkX C (.xc vs tg it c e) ex = true) : ∃ elt gt gi gf scope pos, ex = .ListComp elt [⟨gt, gi, gf, 0⟩] scope pos ∧ blkC C.N C.sc scope (ownOf C vs) = true ∧ chkI C it gt gi = true ∧ nset gi = true ∧
    chkG (C.blk scope) tg gt = true ∧ (∀ i ∈ tg.slots, i ∈ vs) ∧ ((gf = [] ∧ c.isNil = true) ∨ ∃ x, gf = [x] ∧ c.isNil = false ∧ tst c = true ∧ chkE (C.blk scope) c x = true) ∧ chkE (C.blk scope) e elt = true := by
  have h' : (match (generalizing := false) ex with
    | .ListComp elt [g] scope _ => decide (g.is_async = 0) && blkC C.N C.sc scope (ownOf C vs) && chkI C it g.target g.iter && nset g.iter && chkG (C.blk scope) tg g.target && tg.slots.all (fun i => vs.contains i) &&
      (match g.ifs with | [] => c.isNil | [x] => !c.isNil && tst c && chkE (C.blk scope) c x | _ => false) && chkE (C.blk scope) e elt
    | _ => false) = true := h
  split at h'
  · rename_i elt g scope pos
    obtain ⟨gt, gi, gf, ga⟩ := g
    simp only [Bool.and_eq_true, decide_eq_true_eq] at h'
    obtain ⟨⟨⟨⟨⟨⟨⟨h1, h2⟩, h3⟩, h4⟩, h5⟩, h6⟩, h7⟩, h8⟩ := h'
    subst h1
    refine ⟨elt, gt, gi, gf, scope, pos, rfl, h2, h3, h4, h5, slots_sub h6, ?_, h8⟩
    cases gf with
    | nil => exact .inl ⟨rfl, h7⟩
    | cons x xs =>
      cases xs with
      | cons _ _ => cases h7
      | nil =>
        have h7 : (!c.isNil && tst c && chkE (C.blk scope) c x) = true := h7
        simp only [Bool.and_eq_true, Bool.not_eq_true'] at h7
        exact .inr ⟨x, rfl, h7.1.1, h7.1.2, h7.2⟩
  · cases h'
theorem compR_red {C : Cg} {X : Cx} {W : WN} (cx : Ctx2 C X W) {scope : Scope} {c : T} {gf : List Expr} (hc : ∀ B, tst c = true → ST B c) (h : (gf = [] ∧ c.isNil = true) ∨ ∃ x, gf = [x] ∧ c.isNil = false ∧ tst c = true ∧ chkE (C.blk scope) c x = true) (s : Shared) (H : Hp) (Ca : Addr) (cl : List (Str × Addr)) (fp : List Addr) :
    PTs (X.blk s H scope (compEnvC scope cl Ca X.env) fp) gf (cX (C.blk scope) X.K c) := by
  have cb := cx.blk scope s H Ca cl fp
  constructor
  intro pins s' σ H' Q I' q
  rcases h with ⟨rfl, h7⟩ | ⟨x, rfl, h7, h9, h8⟩
  · rcases q with ⟨_, q⟩ | ⟨z, _⟩
    · exact pts_nil.run pins s' σ H' Q I' q
    · rw [h7] at z; cases z
  · rcases q with ⟨z, _⟩ | ⟨_, q⟩
    · rw [h7] at z; cases z
    · exact (pts_one (PT.ex fun B => hc B h9 (C.blk scope) _ _ x cb h8)).run pins s' σ H' Q I' q
/-- one turn and all the others -/
def comC (C : Cg) (c : T) : Rho → Sto → Bp.R Bp.D := fun r S => if c.isNil then .ok (.bl true) S else evE C.E c r S
def comE (C : Cg) (e : T) : Rho → Sto → Bp.R Bp.D := fun r S => evE C.E e r S
def comPv (C : Cg) (K : PySem.W.Frag) (B : Fm) (vs : List Nat) (tg : Tg) (c e : T) (ρ : Rho) (ds : List Bp.D) (I1 : Hp) (M1 : List Addr) (D : Addr) (Q : VK) : Nat → Hp → Prop := fun i H => ∃ I2 M2 S2 acc va, Le I1 M1 I2 M2 ∧ Rel K B I2 M2 S2 H ∧ RpA K I2 M2 va acc ∧ H D = some (.lst va) ∧ I2 D = none ∧ (∀ n : Nat, M2[n]? ≠ some D) ∧
  (match compL vs tg (comC C c) (comE C e) ρ (ds.drop i) S2 acc with
    | .ok zs S3 => okX K B I1 M1 zs S3 Q
    | _ => False)
theorem wipe_wipe (σ : L2.St) (vs : List Nat) : L2.wipe (L2.wipe σ vs) vs = L2.wipe σ vs := by
  refine List.ext_getElem? fun i => ?_
  rw [wipe_get, wipe_get, wipe_length]
  split
  · rfl
  · rfl
theorem compL_noex (vs : List Nat) (tg : Tg) (c e : Rho → Sto → Bp.R Bp.D) (r : Rho) : ∀ (ds : List Bp.D) (S : Sto) (acc : List Bp.D) (k : Nat) (S' : Sto), compL vs tg c e r ds S acc ≠ .ex k S'
  | [], S, acc, k, S' => by simp [compL]
  | d :: ds, S, acc, k, S' => by
    unfold compL
    split
    · simp
    · split
      · split
        · split
          · exact compL_noex vs tg c e r ds _ _ k S'
          · simp
        · simp
      · exact compL_noex vs tg c e r ds _ _ k S'
      · simp
theorem com_elt {C : Cg} {K : PySem.W.Frag} {vs : List Nat} {tg : Tg} {c e : T} {scope : Scope} {ρ r1 : Rho} {σ2 : L2.St} {ds : List Bp.D} {I1 I2 I3 : Hp} {M1 M2 M3 : List Addr} {S2 S3 : Sto} {H2 H3 : Hp} {D : Addr} {Q : VK} {i : Nat} {acc : List Bp.D} {va : List V} (hD0 : B.H0 D = none ∨ B.Mu D)
    (le2 : Le I1 M1 I2 M2) (R2 : Rel K B I2 M2 S2 H2) (ra : RpA K I2 M2 va acc) (hDl : H2 D = some (.lst va)) (hDI2 : I2 D = none) (hDM2 : ∀ n : Nat, M2[n]? ≠ some D) (R3 : Rel K (B.at I2 M2 S2 H2) I3 M3 S3 H3) (le3 : Le I2 M2 I3 M3) (sl2 : Sl K I3 M3 r1 σ2)
    (mm : (match (match comE C e r1 S3 with | .ok y S2 => if acc.length < sizeLine then compL vs tg (comC C c) (comE C e) ρ (ds.drop (i + 1)) S2 (acc ++ [y]) else .no | _ => .no : Bp.R (List Bp.D)) with | .ok zs S3 => okX K B I1 M1 zs S3 Q | _ => False)) :
    eX (C.blk scope) K e σ2 H3 fun y H4 => ∃ acc, H4 D = some (.lst acc) ∧ acc.length < sizeLine ∧ comPv C K B vs tg c e ρ ds I1 M1 D Q (i + 1) (upd H4 D (.lst (acc ++ [y]))) := by
  refine ⟨B.at I2 M2 S2 H2, I3, M3, r1, S3, R3, sl2, ?_⟩
  have ee : evE (C.blk scope).E e r1 S3 = comE C e r1 S3 := rfl
  rw [ee]
  cases e4 : comE C e r1 S3 with
  | ex k S4 => rw [e4] at mm; exact mm.elim
  | no => rw [e4] at mm; exact mm.elim
  | ok y S4 =>
    rw [e4] at mm
    simp only at mm
    intro I4 M4 H4 v le4 R4 rp
    by_cases hl : acc.length < sizeLine
    · rw [if_pos hl] at mm
      have h1 := R4.kept hDl hDM2
      have h2 := R4.keptI hDl hDI2 hDM2
      have h3 := R4.keptM hDl hDI2 hDM2
      have R5 := R2.unbase R4
      have le := le3.trans le4
      exact ⟨va, h1, by rw [ra.length]; exact hl, I4, M4, S4, acc ++ [y], va ++ [v], le2.trans le, R5.put h2 h3 hD0 (fun u hu => by rw [h1] at hu; cases hu; rfl), (ra.mono le).append (.cons rp .nil), upd_same, h2, h3, mm⟩
    · rw [if_neg hl] at mm; exact mm.elim
theorem xc_core {C : Cg} {K : PySem.W.Frag} {scope : Scope} {vs : List Nat} {tg : Tg} {c e : T} (hsub : ∀ i ∈ tg.slots, i ∈ vs) {σ : L2.St} {Q : VK} {I1 : Hp} {M1 : List Addr} {S1 : Sto} {H1 : Hp} {ρ : Rho} {ds : List Bp.D} {J : It} (R1 : Rel K B I1 M1 S1 H1) (wd : WalkD K B I1 M1 ds J) (sl1 : Sl K I1 M1 ρ σ)
    (m : match compL vs tg (fun r S => if c.isNil then .ok (.bl true) S else evE C.E c r S) (fun r S => evE C.E e r S) ρ ds S1 [] with
      | .ok zs S3 => okX K B I1 M1 zs S3 Q
      | _ => False) : tLc (fun _ H R => R J H) (gX K tg) (cX (C.blk scope) K c) (eX (C.blk scope) K e) vs σ H1 Q := by
  intro D hD
  obtain ⟨G, Y, wk, hG, hY⟩ := wd
  have hDI := R1.free hD
  have hD0 := R1.live D hD
  have hDM : ∀ n : Nat, M1[n]? ≠ some D := fun n q => by
    obtain ⟨_, o, _, ho⟩ := R1.there q
    rw [hD] at ho; cases ho
  refine lc_it wk (comPv C K B vs tg c e ρ ds I1 M1 D Q) ?_ ?_ ?_ ?_
  · refine ⟨I1, M1, S1, [], [], Le.refl, R1.put hDI hDM hD0 (fun u hu => by rw [hD] at hu; cases hu), .nil, upd_same, hDI, hDM, ?_⟩
    rw [List.drop_zero]
    exact m
  · rintro i H2 hi2 ⟨I2, M2, S2, acc, va, le2, R2, _⟩
    exact hG I2 M2 S2 H2 le2 R2
  · rintro i x H2 H3 hi2 ⟨I2, M2, S2, acc, va, le2, R2, ra, hDl, hDI2, hDM2, mm⟩ hy
    have hdi : ds[i]? = some ds[i] := by simp [hi2]
    have y := hY i _ H2 x H3 hdi hy
    rw [List.drop_eq_getElem_cons hi2] at mm
    simp only [compL] at mm
    obtain ⟨I3, R3, le3, rp3, _⟩ := y.step (B := B.at I2 M2 S2 H2) R2.rebase le2
    cases e2 : setT tg ds[i] (wipeR ρ vs) with
    | none => rw [e2] at mm; exact mm.elim
    | some r1 =>
      rw [e2] at mm
      simp only at mm
      refine ⟨_, I3, M2, wipeR ρ vs, S2, ds[i], r1, R3, (sl1.mono le2).mono le3 |>.wipe vs, rp3, e2, fun σ2 sl2 ch => ⟨?_, ?_⟩⟩
      · rw [Ch.wipe (ch.sub hsub), wipe_wipe]
      · cases hcn : c.isNil with
        | true =>
          refine .inl ⟨hcn, ?_⟩
          dsimp only
          rw [if_pos rfl]
          refine com_elt hD0 le2 R2 ra hDl hDI2 hDM2 R3 le3 sl2 ?_
          have ec : comC C c r1 S2 = .ok (.bl true) S2 := by
            unfold comC
            rw [if_pos hcn]
          rw [ec] at mm
          exact mm
        | false =>
          refine .inr ⟨hcn, B.at I2 M2 S2 H2, I3, M2, r1, S2, R3, sl2, ?_⟩
          have ec : evE (C.blk scope).E c r1 S2 = comC C c r1 S2 := by
            unfold comC
            rw [if_neg (by rw [hcn]; exact Bool.false_ne_true)]
            rfl
          rw [ec]
          cases e5 : comC C c r1 S2 with
          | ex k S4 => rw [e5] at mm; exact mm.elim
          | no => rw [e5] at mm; exact mm.elim
          | ok d S4 =>
            rw [e5] at mm
            cases d <;> first | exact mm.elim | skip
            rename_i bb
            intro I4 M4 H4 le4 R4
            cases bb with
            | true =>
              rw [if_pos rfl]
              exact com_elt hD0 le2 R2 ra hDl hDI2 hDM2 R4 (le3.trans le4) (sl2.mono le4) mm
            | false =>
              rw [if_neg Bool.false_ne_true]
              have h1 := R4.kept hDl hDM2
              have h2 := R4.keptI hDl hDI2 hDM2
              have h3 := R4.keptM hDl hDI2 hDM2
              have le := le3.trans le4
              exact ⟨I4, M4, S4, acc, va, le2.trans le, R2.unbase R4, ra.mono le, h1, h2, h3, mm⟩
  · rintro H2 ⟨I2, M2, S2, acc, va, le2, R2, ra, hDl, hDI2, hDM2, mm⟩
    rw [List.drop_length] at mm
    have mm : okX K B I1 M1 acc S2 Q := mm
    have q := mm I2 M2 _ D va le2 (R2.drop hDI2 hDM2 hD0 (fun u hu => by rw [hDl] at hu; cases hu; rfl)) ra (by simp)
    rw [upd_drop hDl] at q
    exact q
theorem xc_imp {C : Cg} {K : PySem.W.Frag} {W : WN} {scope : Scope} {vs : List Nat} {tg : Tg} {it c e : T} (hsub : ∀ i ∈ tg.slots, i ∈ vs) : ∀ (σ : L2.St) (H : Hp) (Q : VK), tX C K B W (.xc vs tg it c e) σ H Q → tLc (tI C K B W it) (gX K tg) (cX (C.blk scope) K c) (eX (C.blk scope) K e) vs σ H Q := by
  rintro σ H Q ⟨I, M, ρ, S, R, sl, m⟩
  refine ⟨I, M, ρ, S, R, sl, ?_⟩
  simp only [evX] at m
  cases e1 : evI C.E it ρ S with
  | ex c S1 => rw [e1] at m; exact m
  | no => rw [e1] at m; exact m
  | ok ds S1 =>
    rw [e1] at m
    simp only [Bp.R.bind] at m
    intro I1 M1 H1 J le1 R1 wd
    refine xc_core hsub R1 wd (sl.mono le1) ?_
    cases hc : compL vs tg (fun r S => if c.isNil then .ok (.bl true) S else evE C.E c r S) (fun r S => evE C.E e r S) ρ ds S1 [] with
    | ok zs S3 => rw [hc] at m; exact fun I' M' H' p va le => m I' M' H' p va (le1.trans le)
    | ex k S3 => exact absurd hc (compL_noex _ _ _ _ _ _ _ _ _ _)
    | no => rw [hc] at m; exact m
theorem x_xc (vs : List Nat) (tg : Tg) {it c e : T} (hi : SI B it) (hc : ∀ B, tst c = true → ST B c) (he : ∀ B, SE B e) : SX B (.xc vs tg it c e) := by
  intro C X W ex cx h
  obtain ⟨elt, gt, gi, gf, scope, pos, rfl, h2, h3, h4, h5, hsub, h7, h8⟩ := xc_parts h
  have hown : (ownOf C vs).map (·.2) = vs := by
    unfold ownOf
    rw [List.map_map]
    exact List.map_id' vs
  have ok : BlkOk X.N X.env.scope scope (ownOf C vs) := by
    rw [cx.hN, cx.sc]
    exact blkOk_by h2
  have base := pe_lc (pos := pos) (elt := elt) (g := gX X.K tg) (te := eX (C.blk scope) X.K e) cx.calm cx.nd (hi C X W gt gi cx h3) ok (fun s H Ca cl fp => PG.ex fun B => pg_ok (B := B) (cx.blk scope s H Ca cl fp).toCtx h5) (compR_red cx hc h7)
    (fun s H Ca cl fp => PE.ex fun B => he B (C.blk scope) _ _ elt (cx.blk scope s H Ca cl fp) h8) (nset_fold h4 X.env)
  rw [hown] at base
  exact PE.imp base (xc_imp hsub)
end
end Bp

namespace Bp
open PySem L2
section
variable {B : Fm} {K : PySem.W.Frag} {I I' : Hp} {M M' : List Addr} {S S' : Sto} {H H' : Hp}
/-- the frame as of now, the dict at a locked -/
def Fm.lockAt (B : Fm) (I : Hp) (M : List Addr) (S : Sto) (H : Hp) (a : Addr) (o : HO) : Fm := ⟨upd H a o, I, (B.at I M S H).Mu, fun b => B.L b ∨ b = a, fun _ => False, B.t⟩
theorem dict_cl {u : HO} (h : isDict u = true) : isCl u = true ∧ nt u = true ∧ isTo u = false := by
  cases u <;> first | (cases h; done) | exact ⟨rfl, rfl, rfl⟩
theorem Rel.notMu (R : Rel K B I M S H) {a : Addr} {u : HO} (hI : I a = some u) (hd : isDict u = true) (hH : H a = some u) : ¬ (B.at I M S H).Mu a := by
  rintro (⟨n, c, h1, h2, m⟩ | ⟨_, ps, h⟩)
  · rw [(R.cell n a c h1 h2).free m] at hI; cases hI
  · rw [hH] at h; cases h; cases hd
theorem Rel.relock (R : Rel K B I M S H) {a : Addr} {u : HO} {od : Obj} (hI : I a = some u) (hd : isDict u = true) (hH : H a = some u) : Rel K (B.lockAt I M S H a (.frz od u)) I M S (upd H a (.frz od u)) := by
  have na : ∀ {b : Addr} {o : HO}, H b = some o → isCl o = false → b ≠ a := fun {b o} h z e => by
    rw [e, hH] at h; cases h; rw [(dict_cl hd).1] at z; cases z
  refine ⟨fun b o h => ?_, fun b l => ?_, R.len, R.nd, fun n b c h1 h2 => ?_, fun b o h _ => .inl ⟨fun z => z, h⟩, fun b z => z.elim, fun b h => .inl h, fun n b c h1 h2 m => .inl (.inl ⟨n, c, h1, h2, m⟩), fun b o h => .inl h, Same.refl _, R.tb0, fun z => ⟨fun b ps h => ?_, (R.tb z).2⟩⟩
  · by_cases e : b = a
    · subst e
      rw [hI] at h; cases h
      exact .inr ⟨.inr rfl, od, upd_same⟩
    · rcases R.sub b o h with ⟨l, q⟩ | ⟨l, ob, q⟩
      · exact .inl ⟨fun z => z.elim l e, by rw [upd_ne e]; exact q⟩
      · exact .inr ⟨.inl l, ob, by rw [upd_ne e]; exact q⟩
  · rcases l with l | rfl
    · exact R.lk b l
    · exact ⟨u, hI, hd⟩
  · refine (R.cell n b c h1 h2).stay Le.refl (fun m => (R.cell n b c h1 h2).free m) (fun m => ?_) (fun b' o' h' z => by rw [upd_ne (na h' z)]; exact h')
    have ne : b ≠ a := fun e => by
      have := (R.cell n b c h1 h2).free m
      rw [e, hI] at this; cases this
    exact upd_ne ne
  · have h : upd H a (.frz od u) b = some (.tbl ps) := h
    by_cases e : b = a
    · rw [e, upd_same] at h; cases h
    · rw [upd_ne e] at h
      exact .inr ⟨z, ps, h⟩
theorem Rel.locked (R : Rel K B I M S H) {a : Addr} {u : HO} {od : Obj} (hI : I a = some u) (hd : isDict u = true) (hH : H a = some u) (R2 : Rel K (B.lockAt I M S H a (.frz od u)) I' M' S' H') : H' a = some (.frz od u) := by
  rcases R2.keep a (.frz od u) upd_same (R.notMu hI hd hH) with ⟨_, z⟩ | ⟨z, _⟩
  · exact z
  · exact z.elim
theorem Rel.unlockB (R : Rel K B I M S H) {a : Addr} {u : HO} {od : Obj} (hI : I a = some u) (hd : isDict u = true) (hH : H a = some u) (nL : ¬ B.L a) (R2 : Rel K (B.lockAt I M S H a (.frz od u)) I' M' S' H') : Rel K B I' M' S' (upd H' a u) := by
  have ha := R.locked hI hd hH R2
  have hI2 : I' a = some u := R2.base _ _ hI
  have back : ∀ {b : Addr}, (B.at I M S H).Mu b → B.Mu b ∨ B.H0 b = none := fun {b} z => by
    rcases z with ⟨n', c', g1, g2, m'⟩ | ⟨z, ps, h1⟩
    · exact R.own n' b c' g1 g2 m'
    · exact R.tabMu z h1
  have old : ∀ {b : Addr}, upd H a (.frz od u) b = none → H b = none := fun {b} h => by
    by_cases e : b = a
    · rw [e, upd_same] at h; cases h
    · rw [upd_ne e] at h; exact h
  refine ⟨fun b o h => ?_, fun b l => R2.lk b (.inl l), R2.len, R2.nd, fun n b c h1 h2 => ?_, fun b o h hm => ?_, R.lkn, fun b h => ?_, fun n b c h1 h2 m => ?_, fun b o h => ?_, R.base.trans R2.base, R2.tb0, fun z => ⟨(R.tb z).1, (R2.tb z).2⟩⟩
  · by_cases e : b = a
    · subst e
      rw [hI2] at h; cases h
      exact .inl ⟨nL, upd_same⟩
    · rcases R2.sub b o h with ⟨l, q⟩ | ⟨l, ob, q⟩
      · exact .inl ⟨fun z => l (.inl z), by rw [upd_ne e]; exact q⟩
      · exact .inr ⟨l.elim (fun z => z) fun z => absurd z e, ob, by rw [upd_ne e]; exact q⟩
  · refine (R2.cell n b c h1 h2).stay Le.refl (fun m => (R2.cell n b c h1 h2).free m) (fun m => ?_) (fun b' o' h' z => by
      rw [upd_ne (fun e => by rw [e, ha] at h'; cases h'; cases z)]; exact h')
    have ne : b ≠ a := fun e => by
      have := (R2.cell n b c h1 h2).free m
      rw [e, hI2] at this; cases this
    exact upd_ne ne
  · have nm : ¬ (B.at I M S H).Mu b := fun z => by
      rcases back z with q | q
      · exact hm q
      · rw [h] at q; cases q
    have q := R.keep b o h hm
    by_cases e : b = a
    · subst e
      rcases q with ⟨l, q⟩ | ⟨l, _⟩
      · rw [hH] at q; cases q
        exact .inl ⟨l, upd_same⟩
      · exact (nL (R.lkn b l)).elim
    · have go : ∀ {o' : HO}, H b = some o' → upd H' a u b = some o' := fun {o'} g => by
        rcases R2.keep b o' (show upd H a (.frz od u) b = some o' by rw [upd_ne e]; exact g) nm with ⟨_, z⟩ | ⟨z, _⟩
        · rw [upd_ne e]; exact z
        · exact z.elim
      rcases q with ⟨l, q⟩ | ⟨l, ob, q⟩
      · exact .inl ⟨l, go q⟩
      · exact .inr ⟨l, ob, go q⟩
  · by_cases e : b = a
    · rw [e, upd_same] at h; cases h
    · rw [upd_ne e] at h
      rcases R2.live b h with z | z
      · exact R.live b (old z)
      · exact (back z).symm
  · rcases R2.own n b c h1 h2 m with z | z
    · exact back z
    · exact (R.live b (old z)).symm
  · rcases R2.ext b o h with z | ⟨n, z | z⟩ | z
    · exact R.ext b o z
    · exact .inr (.inl ⟨n, R.live b (old z)⟩)
    · exact .inr (.inl ⟨n, (back z).symm⟩)
    · exact .inr (.inr z)
end
end Bp
namespace Bp
open PySem L2
/-! ### walks over a locked dict -/
def JT (k : I1) (a : Addr) (od : Obj) (kvs : List (List Key × V)) : It := match k with
  | .items => Itit a od kvs
  | _ => Itkt a od kvs
def JK (k : I1) (a : Addr) (od : Obj) (kvs : List (Key × V)) : It := match k with
  | .items => Iti a od kvs
  | _ => Itk a od kvs
section
variable {B : Fm} {K : PySem.W.Frag} {I : Hp} {M : List Addr} {a : Addr} {od : Obj}
theorem all_get {α : Type} {P : α → Bool} {l : List α} (h : l.all P = true) {i : Nat} {x : α} (hx : l[i]? = some x) : P x = true := List.all_eq_true.mp h x (List.mem_of_getElem? hx)
theorem walkD_T {k : I1} {kvs : List (List Key × V)} {ks : List (List Key)} {vs ds : List D} (hG : ∀ {I' M' S' H'}, Rel K B I' M' S' H' → H' a = some (.frz od (.dT kvs))) (hk : kvs.map (·.1) = ks ∧ (ks.all fun k => k.all kOk) = true) (ra : RpA K I M (kvs.map (·.2)) vs) (hd : dWalk k (.dT ks vs) = some ds) : WalkD K B I M ds (JT k a od kvs) := by
  have hlen : vs.length = kvs.length := by rw [← ra.length, List.length_map]
  have key : ∀ {i : Nat} {k : List Key} {v : V}, kvs[i]? = some (k, v) → ks[i]? = some k ∧ k.all kOk = true ∧ ∃ w, vs[i]? = some w ∧ Rp K I M v w := fun {i k v} h => by
    have h1 : ks[i]? = some k := by rw [← hk.1, List.getElem?_map, h]; rfl
    refine ⟨h1, all_get hk.2 h1, ?_⟩
    exact ra.getV (i := i) (v := v) (by rw [List.getElem?_map, h]; rfl)
  cases k <;> simp only [dWalk, reduceCtorEq] at hd
  · cases hd
    have hl : (ks.map fun k => D.tup (k.map keyD)).length = kvs.length := by rw [List.length_map, ← hk.1, List.length_map]
    refine ⟨_, _, by rw [hl]; exact walk_keysT, fun I' M' S H _ R => hG R, ?_⟩
    rintro i d H x H' hd ⟨rfl, kk, v, q, h1, rfl, h2⟩
    obtain ⟨g1, g2, _⟩ := key h1
    rw [List.getElem?_map, g1] at hd
    cases hd
    exact .inr (.inr (.inl ⟨rfl, q, kk, rfl, rfl, h2, g2⟩))
  · cases hd
    have hl : (zipD (ks.map fun k => D.tup (k.map keyD)) vs).length = kvs.length := by
      rw [zipD_len, List.length_map, hlen, ← hk.1, List.length_map]; omega
    refine ⟨fun H => H a = some (.frz od (.dT kvs)), (Itit a od kvs).yld, by rw [hl]; exact ⟨fun _ _ hi q => ⟨q, hi⟩, fun _ q => ⟨q, Nat.le_refl _⟩, fun _ _ _ _ _ _ y => y⟩, fun I' M' S H _ R => hG R, ?_⟩
    rintro i d H x H' hd ⟨T, q, kk, v, h1, rfl, hT, hq, rfl⟩
    obtain ⟨g1, g2, w, g3, g4⟩ := key h1
    obtain ⟨p, w', e1, e2, rfl⟩ := zipD_get hd
    rw [List.getElem?_map, g1] at e1
    cases e1
    rw [g3] at e2
    cases e2
    exact .inr (.inr (.inr ⟨T, q, kk, v, w, rfl, rfl, hT, hq, g2, rfl, g4⟩))
theorem walkD_K {k : I1} {kvs : List (Key × V)} {ks : List Key} {vs ds : List D} (hG : ∀ {I' M' S' H'}, Rel K B I' M' S' H' → H' a = some (.frz od (.dK kvs))) (hk : kvs.map (·.1) = ks ∧ ks.all kOk = true) (ra : RpA K I M (kvs.map (·.2)) vs) (hd : dWalk k (.dK ks vs) = some ds) : WalkD K B I M ds (JK k a od kvs) := by
  have hlen : vs.length = kvs.length := by rw [← ra.length, List.length_map]
  have key : ∀ {i : Nat} {k : Key} {v : V}, kvs[i]? = some (k, v) → ks[i]? = some k ∧ kOk k = true ∧ ∃ w, vs[i]? = some w ∧ Rp K I M v w := fun {i k v} h => by
    have h1 : ks[i]? = some k := by rw [← hk.1, List.getElem?_map, h]; rfl
    refine ⟨h1, all_get hk.2 h1, ?_⟩
    exact ra.getV (i := i) (v := v) (by rw [List.getElem?_map, h]; rfl)
  cases k <;> simp only [dWalk, reduceCtorEq] at hd
  · cases hd
    have hl : (ks.map keyD).length = kvs.length := by rw [List.length_map, ← hk.1, List.length_map]
    refine ⟨_, _, by rw [hl]; exact walk_keys, fun I' M' S H _ R => hG R, ?_⟩
    rintro i d H x H' hd ⟨rfl, kk, v, h1, rfl⟩
    obtain ⟨g1, g2, _⟩ := key h1
    rw [List.getElem?_map, g1] at hd
    cases hd
    exact .inl ⟨rfl, rp_key g2⟩
  · cases hd
    have hl : (zipD (ks.map keyD) vs).length = kvs.length := by
      rw [zipD_len, List.length_map, hlen, ← hk.1, List.length_map]; omega
    refine ⟨fun H => H a = some (.frz od (.dK kvs)), (Iti a od kvs).yld, by rw [hl]; exact ⟨fun _ _ hi q => ⟨q, hi⟩, fun _ q => ⟨q, Nat.le_refl _⟩, fun _ _ _ _ _ _ y => y⟩, fun I' M' S H _ R => hG R, ?_⟩
    rintro i d H x H' hd ⟨T, kk, v, h1, rfl, hT, rfl⟩
    obtain ⟨g1, g2, w, g3, g4⟩ := key h1
    obtain ⟨p, w', e1, e2, rfl⟩ := zipD_get hd
    rw [List.getElem?_map, g1] at e1
    cases e1
    rw [g3] at e2
    cases e2
    exact .inr (.inl ⟨T, _, _, rfl, rfl, hT, rfl, .cons (rp_key g2) (.cons g4 .nil)⟩)
end
def iDict (k : I1) (i : Nat) : TI := fun σ H R => ∃ a, σ[i]? = some (some (.ref a)) ∧ ((∃ od kvs, H a = some (.frz od (.dT kvs)) ∧ R (JT k a od kvs) H) ∨ ∃ od kvs, H a = some (.frz od (.dK kvs)) ∧ R (JK k a od kvs) H)
theorem pi_dict {C : Cg} {X : Cx} (c : Ctx C X) {k : I1} {i : Nat} {tg e : Expr} (h : chkD C k i tg e = true) : PI X tg e (iDict k i) := by
  cases k <;> first | (cases h; done) | skip
  · have h' : (match (generalizing := false) e with
      | .Name x _ => okSlot C i x
      | _ => false) = true := h
    split at h'
    · rename_i x px
      refine PI.imp (pi_keys (okSlot_pe c (i := i) (pos := px) h')) ?_
      rintro σ H R ⟨a, h1, h2⟩
      refine ⟨_, h1, a, ?_⟩
      rcases h2 with ⟨od, kvs, g1, g2⟩ | ⟨od, kvs, g1, g2⟩
      · exact ⟨od, rfl, .inr ⟨kvs, g1, g2⟩⟩
      · exact ⟨od, rfl, .inl ⟨kvs, g1, g2⟩⟩
    · cases h'
  · have h' : (match (generalizing := false) e with
      | .Call (.Attribute (.Name x _) m apos) [] [] cpos => okSlot C i x && decide (m = ("items" : Str)) && (apos.endLine == cpos.line) && isTupE tg
      | _ => false) = true := h
    split at h'
    · rename_i x px m apos cpos
      simp only [Bool.and_eq_true, decide_eq_true_eq] at h'
      obtain ⟨⟨⟨h1, rfl⟩, h3⟩, h4⟩ := h'
      cases tg <;> first | (cases h4; done) | skip
      refine ⟨fun pins s σ H R I q => ?_⟩
      obtain ⟨a, q1, q2⟩ := q
      rcases q2 with ⟨od, kvs, g1, g2⟩ | ⟨od, kvs, g1, g2⟩
      · exact (pi_itemsT (okSlot_pe c (i := i) (pos := px) h1) rfl h3).run pins s σ H R I ⟨_, q1, a, od, kvs, rfl, g1, g2⟩
      · exact (pi_items (okSlot_pe c (i := i) (pos := px) h1) rfl h3).run pins s σ H R I ⟨_, q1, a, od, kvs, rfl, g1, g2⟩
    · cases h'
/-- where the dict of a slot stands -/
theorem slot_dict {K : PySem.W.Frag} {I : Hp} {M : List Addr} {v : V} {d : D} {k : I1} {ds : List D} (rp : Rp K I M v d) (hw : dWalk k d = some ds) :
    (∃ a kvs ks vs, v = .ref a ∧ d = .dT ks vs ∧ I a = some (.dT kvs) ∧ (kvs.map (·.1) = ks ∧ (ks.all fun k => k.all kOk) = true) ∧ RpA K I M (kvs.map (·.2)) vs) ∨
    ∃ a kvs ks vs, v = .ref a ∧ d = .dK ks vs ∧ I a = some (.dK kvs) ∧ (kvs.map (·.1) = ks ∧ ks.all kOk = true) ∧ RpA K I M (kvs.map (·.2)) vs := by
  cases rp <;> first | (cases k <;> cases hw; done) | skip
  · rename_i a kvs ks vs h1 h2 h3; exact .inr ⟨a, kvs, ks, vs, rfl, rfl, h1, h2, h3⟩
  · rename_i a kvs ks vs h1 h2 h3; exact .inl ⟨a, kvs, ks, vs, rfl, rfl, h1, h2, h3⟩
theorem upd_comm {H : Hp} {a p : Addr} {u o : HO} (h : a ≠ p) : upd (upd H p o) a u = upd (upd H a u) p o := by
  funext b
  unfold upd
  by_cases e1 : b = a <;> by_cases e2 : b = p <;> simp [e1, e2]
  · exact absurd (e1.symm.trans e2) h
  all_goals (intro z; exact absurd z (by first | exact h | exact fun q => h q.symm))
section
variable {B : Fm} {K : PySem.W.Frag} {I : Hp} {M : List Addr} {S : Sto} {H : Hp} {a : Addr} {u : HO}
/-- a frame in which the dict stays locked -/
theorem Rel.stays (R : Rel K B I M S H) {ob : Obj} (h : H a = some (.frz ob u)) (hI : I a = some u) {I' : Hp} {M' : List Addr} {S' : Sto} {H' : Hp} (R' : Rel K (B.at I M S H) I' M' S' H') : H' a = some (.frz ob u) := by
  rcases R'.keep a (.frz ob u) h (fun z => by
    rcases z with ⟨n, c, h1, h2, m⟩ | ⟨_, ps, z⟩
    · rw [(R.cell n a c h1 h2).free m] at hI; cases hI
    · rw [h] at z; cases z) with ⟨_, z⟩ | ⟨z, _⟩
  · exact z
  · exact z.elim
end
theorem xcD_parts {C : Cg} {vs : List Nat} {tg : Tg} {k : I1} {i : Nat} {c e : T} {ex : Expr} (h : chkX C (.xcD vs tg k i c e) ex = true) : ∃ elt gt gi gf scope pos, ex = .ListComp elt [⟨gt, gi, gf, 0⟩] scope pos ∧ blkC C.N C.sc scope (ownOf C vs) = true ∧ chkD C k i gt gi = true ∧ nset gi = true ∧
    chkG (C.blk scope) tg gt = true ∧ (∀ i ∈ tg.slots, i ∈ vs) ∧ ((gf = [] ∧ c.isNil = true) ∨ ∃ x, gf = [x] ∧ c.isNil = false ∧ tst c = true ∧ chkE (C.blk scope) c x = true) ∧ chkE (C.blk scope) e elt = true := by
  have h' : (match (generalizing := false) ex with
    | .ListComp elt [g] scope _ => decide (g.is_async = 0) && blkC C.N C.sc scope (ownOf C vs) && chkD C k i g.target g.iter && nset g.iter && chkG (C.blk scope) tg g.target && tg.slots.all (fun i => vs.contains i) &&
      (match g.ifs with | [] => c.isNil | [x] => !c.isNil && tst c && chkE (C.blk scope) c x | _ => false) && chkE (C.blk scope) e elt
    | _ => false) = true := h
  split at h'
  · rename_i elt g scope pos
    obtain ⟨gt, gi, gf, ga⟩ := g
    simp only [Bool.and_eq_true, decide_eq_true_eq] at h'
    obtain ⟨⟨⟨⟨⟨⟨⟨h1, h2⟩, h3⟩, h4⟩, h5⟩, h6⟩, h7⟩, h8⟩ := h'
    subst h1
    refine ⟨elt, gt, gi, gf, scope, pos, rfl, h2, h3, h4, h5, slots_sub h6, ?_, h8⟩
    cases gf with
    | nil => exact .inl ⟨rfl, h7⟩
    | cons x xs =>
      cases xs with
      | cons _ _ => cases h7
      | nil =>
        have h7 : (!c.isNil && tst c && chkE (C.blk scope) c x) = true := h7
        simp only [Bool.and_eq_true, Bool.not_eq_true'] at h7
        exact .inr ⟨x, rfl, h7.1.1, h7.1.2, h7.2⟩
  · cases h'
theorem x_xcD {B : Fm} (vs : List Nat) (tg : Tg) (k : I1) (i : Nat) {c e : T} (hc : ∀ B, tst c = true → ST B c) (he : ∀ B, SE B e) : SX B (.xcD vs tg k i c e) := by
  intro C X W ex cx h
  obtain ⟨elt, gt, gi, gf, scope, pos, rfl, h2, h3, h4, h5, hsub, h7, h8⟩ := xcD_parts h
  have hown : (ownOf C vs).map (·.2) = vs := by
    unfold ownOf
    rw [List.map_map]
    exact List.map_id' vs
  have ok : BlkOk X.N X.env.scope scope (ownOf C vs) := by
    rw [cx.hN, cx.sc]
    exact blkOk_by h2
  have base := pe_lc (pos := pos) (elt := elt) (g := gX X.K tg) (te := eX (C.blk scope) X.K e) cx.calm cx.nd (pi_dict cx.toCtx h3) ok (fun s H Ca cl fp => PG.ex fun B => pg_ok (B := B) (cx.blk scope s H Ca cl fp).toCtx h5) (compR_red cx hc h7)
    (fun s H Ca cl fp => PE.ex fun B => he B (C.blk scope) _ _ elt (cx.blk scope s H Ca cl fp) h8) (nset_fold h4 X.env)
  rw [hown] at base
  refine ⟨fun pins s σ H Q Iv q => ?_⟩
  obtain ⟨I, M, ρ, S, R, sl, m⟩ := q
  simp only [evX] at m
  cases hr : ρ[i]? with
  | none => rw [hr] at m; exact m.elim
  | some od0 =>
    cases od0 with
    | none => rw [hr] at m; exact m.elim
    | some d =>
      rw [hr] at m
      simp only at m
      cases hw : dWalk k d with
      | none => rw [hw] at m; exact m.elim
      | some ds =>
        rw [hw] at m
        simp only at m
        obtain ⟨v, hv, rp⟩ := sl.2 i d hr
        cases hcl : compL vs tg (fun r S => if c.isNil then .ok (.bl true) S else evE C.E c r S) (fun r S => evE C.E e r S) ρ ds S [] with
        | no => rw [hcl] at m; exact m.elim
        | ex kk S3 => exact absurd hcl (compL_noex _ _ _ _ _ _ _ _ _ _)
        | ok zs S3 =>
          rw [hcl] at m
          have m : okX X.K B I M zs S3 Q := m
          have main : ∀ {a : Addr} {u : HO}, v = .ref a → I a = some u → isDict u = true → (∀ {B' : Fm} {ob : Obj}, (∀ {I' M' S' H'}, Rel X.K B' I' M' S' H' → H' a = some (.frz ob u)) → ∃ J, WalkD X.K B' I M ds J ∧ ∀ {σ : L2.St} {H : Hp} {R : It → Hp → Prop}, σ[i]? = some (some v) → H a = some (.frz ob u) → R J H → iDict k i σ H R) →
              wpAny (model X.prog X.w) X.A (eval (.ListComp elt [⟨gt, gi, gf, 0⟩] scope pos) X.env) (EP X pins σ Q) X.xe s := by
            intro a u ev hI hd mk
            rcases R.sub a u hI with ⟨nL, hH⟩ | ⟨lL, ob, hH⟩
            · refine (pe_lock base).run pins s σ H Q Iv ⟨a, u, hH, (by cases u <;> first | trivial | cases hd), fun od => ?_⟩
              obtain ⟨J, wd, go⟩ := mk (B' := B.lockAt I M S H a (.frz od u)) (ob := od) (fun R2 => R.locked hI hd hH R2)
              have hx := xc_core (C := C) (scope := scope) (c := c) (e := e) (Q := fun v H' => H' a = some (.frz od u) ∧ Q v (upd H' a u)) hsub (R.relock (od := od) hI hd hH) wd sl (by
                rw [hcl]
                intro I' M' H' p ws le R' ra hp
                have ha := R.locked hI hd hH R'
                have ne : a ≠ p := ne_of_none ha hp
                refine ⟨by rw [upd_ne ne]; exact ha, ?_⟩
                rw [upd_comm ne]
                exact m I' M' _ p ws le (R.unlockB hI hd hH nL R') ra (by rw [upd_ne (Ne.symm ne)]; exact hp))
              exact go hv upd_same hx
            · obtain ⟨J, wd, go⟩ := mk (B' := B.at I M S H) (ob := ob) (fun R2 => R.stays hH hI R2)
              have hx := xc_core (C := C) (scope := scope) (c := c) (e := e) (Q := Q) hsub R.rebase wd sl (by
                rw [hcl]
                exact fun I' M' H' p ws le R' ra hp => m I' M' H' p ws le (R.unbase R') ra hp)
              exact base.run pins s σ H Q Iv (go hv hH hx)
          rcases slot_dict rp hw with ⟨a, kvs, ks, ws, rfl, rfl, g1, g2, g3⟩ | ⟨a, kvs, ks, ws, rfl, rfl, g1, g2, g3⟩
          · exact main rfl g1 rfl fun {B' ob} hG => ⟨JT k a ob kvs, walkD_T hG g2 g3 hw, fun h1 h2 h3 => ⟨a, h1, .inl ⟨ob, kvs, h2, h3⟩⟩⟩
          · exact main rfl g1 rfl fun {B' ob} hG => ⟨JK k a ob kvs, walkD_K hG g2 g3 hw, fun h1 h2 h3 => ⟨a, h1, .inr ⟨ob, kvs, h2, h3⟩⟩⟩
end Bp

namespace Bp
open PySem PySem.Spec PyProof.Rows L2
/-! ### {k: v}, the key a tuple -/
def tDisp1T (tk tv : TE) : TE := fun σ H Q => ∀ p, H p = none → tk σ (upd H p (.dT [])) fun x H1 => tv σ H1 fun y H2 => H2 p = some (.dT []) ∧ ∃ (b : Addr) (k : List Key), x = .ref b ∧ H2 b = some (.tup (k.map kV)) ∧ Q (.ref p) (upd H2 p (.dT [(k, y)]))
theorem dict_pairsH {prog : Program} {w : World} {A : Around} {E : Value → Shared → Prop} {s : Shared} {κ : Type} [DecidableEq κ] {knd : HeapKind prog w κ} {env : Env} {keys : List (Option Expr)} {values : List Expr} {pos : Pos} {pairs : List (Sem Value × Sem Value)} {Q : Value → Shared → Prop} (hu : knd.room A)
    (hshape : (evalEachOpt keys env).zip ((evalEach values env).map fun v => do let x ← v; standAt pos; pure x) = pairs.map fun p => (some p.1, p.2)) (h0 : pairs ≠ []) (hlen : pairs.length ≤ 15)
    (h : wpAny (model prog w) A (evalPairs pairs) (fun vs s₁ => ∃ ps, CarriesH knd s₁.heap vs ps ∧ s₁.heap.DictOfH knd s.heap.objs.size [] ∧
      ∀ h' tk, h'.DictOfH knd s.heap.objs.size (storedAllH [] ps) → Heap.SameBut s.heap.objs.size s₁.heap h' → Q (.ref s.heap.objs.size) { s₁ with heap := h', toks := tk }) E
      { s with heap := s.heap.push { cls := .type "dict", data := .dict #[] } }) : wpAny (model prog w) A (eval (.Dict keys values pos) env) Q E s := by
  rw [arm_eval_Dict, hshape, dictDisplay_pairs pairs h0 (by omega)]
  exact wpAny_bind (wpAny_standAt (wpAny_bind (wpAny_subDictH (knd := knd) (Q := fun d s' => wpAny (model prog w) A (pure (Value.ref d)) Q E s') hu hlen
    (wpAny_mono h (fun vs s₁ h₁ => by obtain ⟨ps, hc, hm, hq⟩ := h₁; exact ⟨ps, hc, hm, fun h' tk a b => wpAny_pure (hq h' tk a b)⟩) fun _ _ e => e))))
theorem pe_disp1T {X : Cx} {ke ve : Expr} {tk tv : TE} {pos : Pos} (hu : X.A.units + 1 < cLine) (hk : PE X ke tk) (hv : PE X ve tv) : PE X (.Dict [some ke] [ve] pos) (tDisp1T tk tv) := by
  refine ⟨fun pins s σ H Q I q => ?_⟩
  have hn := I.hok.fresh (Nat.le_refl s.heap.objs.size)
  have I1 := I.laid (a := s.heap.objs.size) (o := .dT []) (h' := s.heap.push { cls := .type "dict", data := .dict #[] }) (t' := s.toks) (fun _ _ q => Heap.get?_push_of_some _ q) (Nat.le_refl _) (dt_empty s.heap I.big)
  have pp := (pps_cons (pos := pos) hk hv pps_nil).run pins _ σ _ (fun ps H2 => match ps with
    | [(x, y)] => H2 s.heap.objs.size = some (.dT []) ∧ ∃ (b : Addr) (k : List Key), x = .ref b ∧ H2 b = some (.tup (k.map kV)) ∧ Q (.ref s.heap.objs.size) (upd H2 s.heap.objs.size (.dT [(k, y)]))
    | _ => False) I1 (q _ hn)
  refine dict_pairsH (knd := tupleKind (mixKind X.prog X.w)) (pairs := pairTrees [some ke] [ve] X.env pos) (show X.A.units < cLine by omega) rfl (fun z => by cases z) (by show 1 ≤ 15; decide) (thn pp fun ws s2 hw => ?_)
  obtain ⟨ps, H2, I2, rel, qq⟩ := hw
  cases rel with
  | nil => exact qq.elim
  | @cons p w' as bs r1 rr =>
    cases rr with
    | cons _ _ => exact qq.elim
    | nil =>
      obtain ⟨x, y⟩ := p
      obtain ⟨u1, u2⟩ := w'
      obtain ⟨e, b, k, ex, hb, qq⟩ := qq
      have ex : x = .ref b := ex
      subst ex
      obtain ⟨rx, ry⟩ := r1
      have rx : u1 = Value.ref b := rx
      subst rx
      obtain ⟨zz, hd, xs, rel0, dd⟩ := dt_of I2.hok e
      cases rel0
      refine ⟨[(k, b, u2)], ⟨rfl, rfl, key_of I2.hok hb, trivial⟩, dd, fun h' tk dd' hs => ?_⟩
      obtain ⟨qo, es, ep, hq, g2, g3, g4, _, g5⟩ := dd'
      have kt : KT H2 [(k, y)] (storedAllH [] [(k, b, u2)]) := by
        show KT H2 (putK [] k y) (storedH [] k b u2)
        exact KT.put .nil k hb ry
      refine ⟨.ref s.heap.objs.size, _, d_write (ob := .dT [(k, y)]) (t' := tk) I2 (by rw [e]; exact True.intro) hs ⟨qo, hq⟩ ⟨by show 1 ≤ sizeLine; decide, hd, _, kt.keeps fun c ys ec => ?_, qo, es, ep, hq, g2, g3, g4, g5⟩, rfl, qq⟩
      rw [upd_ne (ne_of ec e (fun z => nomatch z))]
      exact ec
/-! ### such a dict that never changes -/
theorem e_imd {B : Fm} (tk : Bool) {k v : T} (hk : ∀ B, SE B k) (hv : ∀ B, SE B v) : SE B (.imd tk k v) := by
  intro C X W ex cx h
  have h' : (match (generalizing := false) ex with
    | .Dict [some ke] [ve] _ => tk && (chkE C k ke && chkE C v ve)
    | _ => false) = true := h
  split at h'
  · rename_i ke ve pos
    rw [Bool.and_eq_true] at h'
    obtain ⟨rfl, h'⟩ := h'
    · rw [Bool.and_eq_true] at h'
      have pk : PE X ke (fun σ H Q => ∃ B' : Fm, tE C X.K B' W k σ H Q) := PE.ex fun B' => hk B' C X W ke cx h'.1
      have pv : PE X ve (fun σ H Q => ∃ B' : Fm, tE C X.K B' W v σ H Q) := PE.ex fun B' => hv B' C X W ve cx h'.2
      refine PE.imp (pe_disp1T (hu_of cx.room) pk pv) ?_
      rintro σ H Q ⟨I, M, ρ, S, R, sl, m⟩ p hp
      have R0 : Rel X.K B I M S (upd H p (.dT [])) := R.put' hp
      have hpI : I p = none := R.free hp
      have hpM : ∀ n : Nat, M[n]? ≠ some p := fun n q => by
        obtain ⟨_, o, _, ho⟩ := R.there q
        rw [hp] at ho; cases ho
      have hp0 : (upd H p (.dT [])) p = some (.dT []) := upd_same
      simp only [evE] at m
      refine ⟨B.at I M S (upd H p (.dT [])), I, M, ρ, S, R0.rebase, sl, ?_⟩
      have live0 := R.live p hp
      cases e1 : evE C.E k ρ S with
      | no => rw [e1] at m; exact m
      | ex c S1 => rw [e1] at m; exact fun I' M' H' le R' => m I' M' H' le (R0.unbase R')
      | ok dk S1 =>
        rw [e1] at m
        simp only [Bp.R.bind] at m
        intro I1 M1 H1 x le1 R1 rp1
        refine ⟨B.at I M S (upd H p (.dT [])), I1, M1, ρ, S1, R1, sl.mono le1, ?_⟩
        cases e2 : evE C.E v ρ S1 with
        | no => rw [e2] at m; exact m
        | ex c S2 => rw [e2] at m; exact fun I' M' H' le R' => m I' M' H' (le1.trans le) (R0.unbase R')
        | ok dv S2 =>
          rw [e2] at m
          simp only [dispD, if_true] at m
          intro I2 M2 H2 y le2 R2 rp2
          have hp2 := R2.kept hp0 hpM
          have hpI2 := R2.keptI hp0 hpI hpM
          have hpM2 := R2.keptM hp0 hpI hpM
          have RB := R0.unbase R2
          refine ⟨hp2, ?_⟩
          have tx := rp1.mono le2
          cases dk <;> first | exact m.elim | skip
          rename_i xs
          simp only at m
          cases tx with
          | tup hb ra =>
            rename_i b us
            cases ek : keysOf xs with
            | none => rw [ek] at m; exact m.elim
            | some q =>
              rw [ek] at m
              have hb2 := R2.pl _ _ hb rfl
              have hus := keysOf_map ek ra
              rw [hus] at hb2
              refine ⟨b, q, rfl, hb2, ?_⟩
              have RD := RB.drop hpI2 hpM2 live0 (fun u hu => by rw [hp2] at hu; cases hu; rfl)
              obtain ⟨RN, leN⟩ := RD.new (o := .dT [(q, y)]) (p := p) (by simp)
              have eH : upd (fun b => if b = p then none else H2 b) p (HO.dT [(q, y)]) = upd H2 p (.dT [(q, y)]) := by
                funext b
                unfold upd
                by_cases e : b = p <;> simp [e]
              rw [eH] at RN
              refine m _ _ _ _ ((le1.trans le2).trans leN) RN (.dT upd_same ⟨rfl, ?_⟩ (.cons (rp2.mono leN) .nil))
              show (q.all kOk && true) = true
              rw [keysOf_ok ek ra]; rfl
  · cases h'
end Bp

namespace Bp
open PySem L2
structure Snd (u : T) : Prop where
  e : ∀ B, SE B u
  t : ∀ B, tst u = true → ST B u
  a : ∀ B, SA B u
  x : ∀ B, SX B u
  i : ∀ B, SI B u
theorem kE {u : T} (h : ∀ C e, chkE C u e = false) : ∀ B, SE B u := fun B C X W e c q => absurd ((h C e).symm.trans q) Bool.false_ne_true
theorem kT {u : T} (h : ∀ C e, chkE C u e = false) : ∀ B, tst u = true → ST B u := fun B _ C X W e c q => absurd ((h C e).symm.trans q) Bool.false_ne_true
theorem kA {u : T} (h : ∀ C e, chkA C u e = false) : ∀ B, SA B u := fun B C X W e c q => absurd ((h C e).symm.trans q) Bool.false_ne_true
theorem kX {u : T} (h : ∀ C e, chkX C u e = false) : ∀ B, SX B u := fun B C X W e c q => absurd ((h C e).symm.trans q) Bool.false_ne_true
theorem kI {u : T} (h : ∀ C g e, chkI C u g e = false) : ∀ B, SI B u := fun B C X W g e c q => absurd ((h C g e).symm.trans q) Bool.false_ne_true
theorem st_name {B : Fm} {t : T} (he : SE B t) (hp : ∀ C e, chkE C t e = true → plainT e = true) : ST B t := fun C X W e c h => st_plain (he C X W e c h) (hp C e h)
theorem split1_plain {C : Cg} {o : O1} {e x : Expr} (h : split1 C o e = some x) : plainT e = true := by
  cases e <;> first | rfl | skip
  all_goals (cases o <;> first | (cases h; done) | skip)
  all_goals (rename_i u _ _; cases u <;> first | rfl | (cases h; done))
theorem split2_plain {o : O2} {e x y : Expr} (h : split2 o e = some (x, y)) : plainT e = true ∨ ∃ a b c p, e = .Compare a b c p := by
  cases e <;> first | exact .inl rfl | exact .inr ⟨_, _, _, _, rfl⟩ | (cases h; done)
theorem snd (t : T) : Snd t := by
  induction t with
  | v i => exact ⟨fun B => e_v i, fun B _ => st_name (e_v i) fun C e h => by cases e <;> first | rfl | (exact absurd h Bool.false_ne_true), kA (fun _ _ => rfl), kX (fun _ _ => rfl), kI (fun _ _ _ => rfl)⟩
  | k d => exact ⟨fun B => e_k d, fun B _ => st_name (e_k d) fun C e h => by cases e <;> first | rfl | (exact absurd h Bool.false_ne_true), kA (fun _ _ => rfl), kX (fun _ _ => rfl), kI (fun _ _ _ => rfl)⟩
  | g i => exact ⟨fun B => e_g i, fun B _ => st_name (e_g i) fun C e h => by cases e <;> first | rfl | (exact absurd h Bool.false_ne_true), kA (fun _ _ => rfl), kX (fun _ _ => rfl), kI (fun _ _ _ => rfl)⟩
  | o1 o a ha =>
    refine ⟨fun B => e_o1 o (ha.e B), fun B _ => st_name (e_o1 o (ha.e B)) fun C e h => ?_, kA (fun _ _ => rfl), kX (fun _ _ => rfl), kI (fun _ _ _ => rfl)⟩
    have h' : (match split1 C o e with | some x => chkE C a x | none => false) = true := h
    split at h'
    · rename_i hx; exact split1_plain hx
    · cases h'
  | o2 o a b ha hb => exact ⟨fun B => e_o2 o (ha.e B) (hb.e B), fun B _ => st_o2 o (ha.e B) (hb.e B), kA (fun _ _ => rfl), kX (fun _ _ => rfl), kI (fun _ _ _ => rfl)⟩
  | sl a lo hi ha hlo hhi =>
    refine ⟨fun B => e_sl (ha.e B) (hlo.e B) (hhi.e B), fun B _ => st_name (e_sl (ha.e B) (hlo.e B) (hhi.e B)) fun C e h => ?_, kA (fun _ _ => rfl), kX (fun _ _ => rfl), kI (fun _ _ _ => rfl)⟩
    cases e <;> first | rfl | (exact absurd h Bool.false_ne_true)
  | and a b ha hb =>
    refine ⟨fun B => e_and (ha.e B) (hb.e B), fun B h => ?_, kA (fun _ _ => rfl), kX (fun _ _ => rfl), kI (fun _ _ _ => rfl)⟩
    simp only [tst, Bool.and_eq_true] at h
    exact st_and (ha.t B h.1) (hb.t B h.2)
  | or a b ha hb =>
    refine ⟨fun B => e_or (ha.e B) (hb.e B), fun B h => ?_, kA (fun _ _ => rfl), kX (fun _ _ => rfl), kI (fun _ _ _ => rfl)⟩
    simp only [tst, Bool.and_eq_true] at h
    exact st_or (ha.t B h.1) (hb.t B h.2)
  | not a ha =>
    refine ⟨fun B => e_not (ha.e B), fun B h => ?_, kA (fun _ _ => rfl), kX (fun _ _ => rfl), kI (fun _ _ _ => rfl)⟩
    exact st_not (ha.t B h)
  | ite c a b hc ha hb => exact ⟨fun B => e_ite (hc.t B) (ha.e B) (hb.e B), fun B h => absurd h Bool.false_ne_true, kA (fun _ _ => rfl), kX (fun _ _ => rfl), kI (fun _ _ _ => rfl)⟩
  | ch o p a b c ha hb hc => exact ⟨fun B => e_ch o p (ha.e B) (hb.e B) (hc.e B), fun B _ => st_ch o p (ha.e B) (hb.e B) (hc.e B), kA (fun _ _ => rfl), kX (fun _ _ => rfl), kI (fun _ _ _ => rfl)⟩
  | tup as h1 =>
    refine ⟨fun B => e_tup (h1.a B), fun B _ => st_name (e_tup (h1.a B)) fun C e h => ?_, kA (fun _ _ => rfl), kX (fun _ _ => rfl), kI (fun _ _ _ => rfl)⟩
    cases e <;> first | rfl | (exact absurd h Bool.false_ne_true)
  | im x hx => exact ⟨fun B => e_im (hx.x B), fun B h => absurd h Bool.false_ne_true, kA (fun _ _ => rfl), kX (fun _ _ => rfl), kI (fun _ _ _ => rfl)⟩
  | mk x hx => exact ⟨fun B => e_mk (hx.x B), fun B h => absurd h Bool.false_ne_true, kA (fun _ _ => rfl), kX (fun _ _ => rfl), kI (fun _ _ _ => rfl)⟩
  | xl as h1 => exact ⟨kE (fun _ _ => rfl), kT (fun _ _ => rfl), kA (fun _ _ => rfl), fun B => x_xl (h1.a B), kI (fun _ _ _ => rfl)⟩
  | x1 o a ha => exact ⟨kE (fun _ _ => rfl), kT (fun _ _ => rfl), kA (fun _ _ => rfl), fun B => x_x1 o (ha.e B), kI (fun _ _ _ => rfl)⟩
  | xc vs tg it c e hi hc he => exact ⟨kE (fun _ _ => rfl), kT (fun _ _ => rfl), kA (fun _ _ => rfl), fun B => x_xc vs tg (hi.i B) hc.t he.e, kI (fun _ _ _ => rfl)⟩
  | it1 k a ha => exact ⟨kE (fun _ _ => rfl), kT (fun _ _ => rfl), kA (fun _ _ => rfl), kX (fun _ _ => rfl), fun B => i_it1 k (ha.e B)⟩
  | it2 k a b ha hb => exact ⟨kE (fun _ _ => rfl), kT (fun _ _ => rfl), kA (fun _ _ => rfl), kX (fun _ _ => rfl), fun B => i_it2 k (ha.e B) (hb.e B)⟩
  | call f as h1 =>
    refine ⟨fun B => e_call f (h1.a B), fun B _ => st_name (e_call f (h1.a B)) fun C e h => ?_, kA (fun _ _ => rfl), kX (fun _ _ => rfl), kI (fun _ _ _ => rfl)⟩
    cases e <;> first | rfl | (exact absurd h Bool.false_ne_true)
  | frz a ha => exact ⟨fun B => e_frz (ha.e B), fun B h => absurd h Bool.false_ne_true, kA (fun _ _ => rfl), kX (fun _ _ => rfl), kI (fun _ _ _ => rfl)⟩
  | app i e he =>
    refine ⟨fun B => e_app i (he.e B), fun B _ => st_name (e_app i (he.e B)) fun C e h => ?_, kA (fun _ _ => rfl), kX (fun _ _ => rfl), kI (fun _ _ _ => rfl)⟩
    cases e <;> first | rfl | (exact absurd h Bool.false_ne_true)
  | nil => exact ⟨kE (fun _ _ => rfl), kT (fun _ _ => rfl), fun B => a_nil, kX (fun _ _ => rfl), kI (fun _ _ _ => rfl)⟩
  | cons a b ha hb => exact ⟨kE (fun _ _ => rfl), kT (fun _ _ => rfl), fun B => a_cons (ha.e B) (hb.a B), kX (fun _ _ => rfl), kI (fun _ _ _ => rfl)⟩
  | extd i e he =>
    refine ⟨fun B => e_extd i (he.e B), fun B _ => st_name (e_extd i (he.e B)) fun C e h => ?_, kA (fun _ _ => rfl), kX (fun _ _ => rfl), kI (fun _ _ _ => rfl)⟩
    cases e <;> first | rfl | (exact absurd h Bool.false_ne_true)
  | bad => exact ⟨fun B => e_bad, fun B h => absurd h Bool.false_ne_true, kA (fun _ _ => rfl), kX (fun _ _ => rfl), kI (fun _ _ _ => rfl)⟩
  | told e he => exact ⟨fun B => e_told (he.e B), fun B h => absurd h Bool.false_ne_true, kA (fun _ _ => rfl), kX (fun _ _ => rfl), kI (fun _ _ _ => rfl)⟩
  | dget a k x ha hk hx =>
    refine ⟨fun B => e_dget (ha.e B) (hk.e B) (hx.e B), fun B _ => st_name (e_dget (ha.e B) (hk.e B) (hx.e B)) fun C e h => ?_, kA (fun _ _ => rfl), kX (fun _ _ => rfl), kI (fun _ _ _ => rfl)⟩
    cases e <;> first | rfl | (exact absurd h Bool.false_ne_true)
  | mkd b a _ => exact ⟨fun B => e_mkd b, fun B h => absurd h Bool.false_ne_true, kA (fun _ _ => rfl), kX (fun _ _ => rfl), kI (fun _ _ _ => rfl)⟩
  | setd i a b ha hb =>
    refine ⟨fun B => e_setd i (ha.e B) (hb.e B), fun B _ => st_name (e_setd i (ha.e B) (hb.e B)) fun C e h => ?_, kA (fun _ _ => rfl), kX (fun _ _ => rfl), kI (fun _ _ _ => rfl)⟩
    obtain ⟨x, px, apos, e1, e2, cpos, rfl, _⟩ := setd_parts h
    rfl
  | m1 o a b _ _ => exact ⟨kE (fun _ _ => rfl), kT (fun _ _ => rfl), kA (fun _ _ => rfl), kX (fun _ _ => rfl), kI (fun _ _ _ => rfl)⟩
  | popAt i a _ => exact ⟨kE (fun _ _ => rfl), kT (fun _ _ => rfl), kA (fun _ _ => rfl), kX (fun _ _ => rfl), kI (fun _ _ _ => rfl)⟩
  | put i a b _ _ => exact ⟨kE (fun _ _ => rfl), kT (fun _ _ => rfl), kA (fun _ _ => rfl), kX (fun _ _ => rfl), kI (fun _ _ _ => rfl)⟩
  | imd tk k v hk hv => exact ⟨fun B => e_imd tk hk.e hv.e, fun B h => absurd h Bool.false_ne_true, kA (fun _ _ => rfl), kX (fun _ _ => rfl), kI (fun _ _ _ => rfl)⟩
  | xcD vs tg k i c e hc he => exact ⟨kE (fun _ _ => rfl), kT (fun _ _ => rfl), kA (fun _ _ => rfl), fun B => x_xcD vs tg k i hc.t he.e, kI (fun _ _ _ => rfl)⟩
  | forD tg k i b _ => exact ⟨kE (fun _ _ => rfl), kT (fun _ _ => rfl), kA (fun _ _ => rfl), kX (fun _ _ => rfl), kI (fun _ _ _ => rfl)⟩
  | par3 i j l a b c _ _ _ => exact ⟨kE (fun _ _ => rfl), kT (fun _ _ => rfl), kA (fun _ _ => rfl), kX (fun _ _ => rfl), kI (fun _ _ _ => rfl)⟩
  | asg tg e he => exact ⟨kE (fun _ _ => rfl), kT (fun _ _ => rfl), kA (fun _ _ => rfl), kX (fun _ _ => rfl), kI (fun _ _ _ => rfl)⟩
  | par i j a b ha hb => exact ⟨kE (fun _ _ => rfl), kT (fun _ _ => rfl), kA (fun _ _ => rfl), kX (fun _ _ => rfl), kI (fun _ _ _ => rfl)⟩
  | ex e he => exact ⟨kE (fun _ _ => rfl), kT (fun _ _ => rfl), kA (fun _ _ => rfl), kX (fun _ _ => rfl), kI (fun _ _ _ => rfl)⟩
  | ret e he => exact ⟨kE (fun _ _ => rfl), kT (fun _ _ => rfl), kA (fun _ _ => rfl), kX (fun _ _ => rfl), kI (fun _ _ _ => rfl)⟩
  | iff c a b hc ha hb => exact ⟨kE (fun _ _ => rfl), kT (fun _ _ => rfl), kA (fun _ _ => rfl), kX (fun _ _ => rfl), kI (fun _ _ _ => rfl)⟩
  | for_ tg it b hi hb => exact ⟨kE (fun _ _ => rfl), kT (fun _ _ => rfl), kA (fun _ _ => rfl), kX (fun _ _ => rfl), kI (fun _ _ _ => rfl)⟩
  | whl c b hc hb => exact ⟨kE (fun _ _ => rfl), kT (fun _ _ => rfl), kA (fun _ _ => rfl), kX (fun _ _ => rfl), kI (fun _ _ _ => rfl)⟩
  | rse c => exact ⟨kE (fun _ _ => rfl), kT (fun _ _ => rfl), kA (fun _ _ => rfl), kX (fun _ _ => rfl), kI (fun _ _ _ => rfl)⟩
  | cont => exact ⟨kE (fun _ _ => rfl), kT (fun _ _ => rfl), kA (fun _ _ => rfl), kX (fun _ _ => rfl), kI (fun _ _ _ => rfl)⟩
  | brk => exact ⟨kE (fun _ _ => rfl), kT (fun _ _ => rfl), kA (fun _ _ => rfl), kX (fun _ _ => rfl), kI (fun _ _ _ => rfl)⟩
  | pass => exact ⟨kE (fun _ _ => rfl), kT (fun _ _ => rfl), kA (fun _ _ => rfl), kX (fun _ _ => rfl), kI (fun _ _ _ => rfl)⟩
end Bp

namespace Bp
open PySem L2
/-! ### statements -/
structure Ctx3 (C : Cg) (X : Cx) (W : WN) : Prop extends Ctx2 C X W where
  own : PassesOwn (model X.prog X.w) X.A X.env X.xe
  kind : X.env.blockKind = .function
  skind : X.env.scope.kind = .function
  exc : ∀ (i : Nat) x, C.exs[i]? = some x → x ≠ "" → ∃ Ca BB newId initId bmB, C.cls i = .ref Ca ∧ ExcBaseFacts BB newId initId bmB ∧ PySem.W.excIn X.K Ca bmB newId = true ∧ X.mg x = some (.ref Ca) ∧ PySem.W.keepIn X.K (.ref Ca) = true ∧ Raises X (.ref Ca)
def resS (K : PySem.W.Frag) (B : Fm) (W : WN) (I : Hp) (M : List Addr) (x : SR) (D : Ends) : Prop := match x with
  | .nx r S => ∀ I' M' H' σ', Le I M I' M' → Rel K B I' M' S H' → Sl K I' M' r σ' → D.nx σ' H'
  | .ct r S => ∀ I' M' H' σ', Le I M I' M' → Rel K B I' M' S H' → Sl K I' M' r σ' → D.ct σ' H'
  | .bk r S => ∀ I' M' H' σ', Le I M I' M' → Rel K B I' M' S H' → Sl K I' M' r σ' → D.bk σ' H'
  | .rt d S => okP K B I M d S D.rt
  | .ex c r S => ∀ I' M' H' σ', Le I M I' M' → Rel K B I' M' S H' → Sl K I' M' r σ' → W c σ' H'
  | .no => False
theorem resS.mono {K : PySem.W.Frag} {B : Fm} {W : WN} {I I' : Hp} {M M' : List Addr} {x : SR} {D : Ends} (h : resS K B W I M x D) (le : Le I M I' M') : resS K B W I' M' x D := by
  cases x with
  | nx r S => exact fun I2 M2 H2 σ2 l => h I2 M2 H2 σ2 (le.trans l)
  | ct r S => exact fun I2 M2 H2 σ2 l => h I2 M2 H2 σ2 (le.trans l)
  | bk r S => exact fun I2 M2 H2 σ2 l => h I2 M2 H2 σ2 (le.trans l)
  | rt d S => exact okP.mono h le
  | ex c r S => exact fun I2 M2 H2 σ2 l => h I2 M2 H2 σ2 (le.trans l)
  | no => exact h
def tS (C : Cg) (K : PySem.W.Frag) (B : Fm) (W : WN) (t : T) : TS := fun D σ H => ∃ I M r S, Rel K B I M S H ∧ Sl K I M r σ ∧ resS K B W I M (evS C.E t r S) D
def isLc : Expr → Bool
  | .ListComp _ _ _ _ => true
  | .SetComp _ _ _ _ => true
  | .DictComp _ _ _ _ _ => true
  | _ => false
def isTup2 : Expr → Bool
  | .Tuple _ _ _ => true
  | .List _ _ => true
  | _ => false
theorem nsw {e : Expr} (h : isLc e = false) (t : Option Expr) (l : Nat) (env : Env) : swapsWith e t l env = pure false := by
  cases e <;> first | rfl | cases h
/-- the value is made ahead of the target -/
def nswT (C : Cg) (tg e : Expr) : Bool := !isLc e || (match tg with
  | .Name x _ => decide (C.sc.names.lookup x ≠ some .local)
  | .Tuple _ _ _ => true
  | _ => false)
theorem nswT_eq {C : Cg} {X : Cx} (c : Ctx C X) {tg e : Expr} (h : nswT C tg e = true) (l : Nat) : swapsWith e (some tg) l X.env = pure false := by
  unfold nswT at h
  rw [Bool.or_eq_true] at h
  rcases h with h | h
  · exact nsw (by simpa using h) _ _ _
  · split at h
    · rename_i x p
      rw [decide_eq_true_eq] at h
      have hk : (X.env.kindOf x == some .local) = false := by
        refine beq_eq_false_iff_ne.mpr ?_
        show X.env.scope.names.lookup x ≠ _
        rw [c.sc]
        exact h
      unfold swapsWith
      split <;> first | rfl | skip
      simp only [hk, Bool.and_false, Bool.false_and]
    · unfold swapsWith
      split <;> rfl
    · cases h
/-- a name that is no plain local among the targets -/
def someCell (C : Cg) : List Expr → Bool
  | [] => false
  | .Name x _ :: r => decide (C.sc.names.lookup x ≠ some .local) || someCell C r
  | _ :: _ => true
/-- how the store looks at a target -/
def plainName (env : Env) (line : Nat) : Expr → Option Str
  | .Name id pos => if env.kindOf id == some .local && pos.line == line then some id else none
  | _ => none
theorem sw_cell {C : Cg} {X : Cx} (c : Ctx C X) {line : Nat} : ∀ {ts : List Expr}, someCell C ts = true → (ts.filterMap (plainName X.env line)).length < ts.length
  | [], h => by cases h
  | t :: r, h => by
    have le : (r.filterMap (plainName X.env line)).length ≤ r.length := List.length_filterMap_le _ _
    cases e : plainName X.env line t with
    | none => rw [List.filterMap_cons, e]; simp only [List.length_cons]; omega
    | some id =>
      rw [List.filterMap_cons, e]
      simp only [List.length_cons]
      cases t <;> first | (cases e; done) | skip
      rename_i x p
      simp only [someCell, Bool.or_eq_true, decide_eq_true_eq] at h
      have hk : X.env.kindOf x = C.sc.names.lookup x := by
        show X.env.scope.names.lookup x = _
        rw [c.sc]
      rcases h with h | h
      · simp only [plainName, hk] at e
        have : (C.sc.names.lookup x == some NameKind.local) = false := beq_eq_false_iff_ne.mpr h
        rw [this] at e
        cases e
      · have := sw_cell c (line := line) h
        omega
/-- the pair is made and taken apart again -/
def noSwap (C : Cg) (tg e : Expr) : Bool := match tg, e with
  | .Tuple ts _ _, .Tuple _ _ _ => someCell C ts
  | .List _ _, .Tuple _ _ _ => false
  | _, _ => true
theorem noSwap_eq {C : Cg} {X : Cx} (c : Ctx C X) {tg e : Expr} (h : noSwap C tg e = true) : swappedStores [tg] e X.env = pure none := by
  unfold swappedStores
  cases tg <;> cases e <;> first | rfl | (cases h; done) | skip
  rename_i ts k p vs k2 p2
  have h : someCell C ts = true := h
  have hl := sw_cell c (line := (ts.head?.map (·.pos.line)).getD 0) h
  have hF : ∀ F : Expr → Option Str, (∀ t, F t = plainName X.env ((ts.head?.map (·.pos.line)).getD 0) t) → ((ts.filterMap F).length != ts.length) = true := fun F hF => by
    have : F = plainName X.env ((ts.head?.map (·.pos.line)).getD 0) := funext hF
    rw [this]
    simp only [bne_iff_ne, ne_eq]
    omega
  simp only [pure_bind]
  split
  · rfl
  · split
    · rfl
    · refine if_pos ?_
      rw [Bool.or_eq_true]
      exact .inl (hF _ fun t => by cases t <;> rfl)
def stI : Stmt → Option (Expr × List Stmt × List Stmt)
  | .If c a b _ => some (c, a, b)
  | _ => none
/-! ### the checker for statements -/
def chkRaise (C : Cg) (i : Nat) : Stmt → Bool
  | .Raise (some (.Call (.Name x _) [.Constant (.str _) _ _] [] _)) none _ => decide (C.exs[i]? = some x) && glb C x && okName x && decide (x ≠ "")
  | _ => false
def okLocal (C : Cg) (i : Nat) (x : Str) : Bool := decide (C.N[i]? = some x) && decide (C.sc.names.lookup x = some .local)
/-- name = [..] on one line, a plain local -/
def chkLc (C : Cg) (tg : Tg) (e : T) (target value : Expr) : Bool := match tg, e, target, value with
  | .n i, .im (.xc vs g it c el), .Name y py, .ListComp _ _ scope pos => okLocal C i y && (py.line == pos.line) && !(scope.names.any fun (n, k) => n == y && (k == .local || k == .cell)) && chkX C (.xc vs g it c el) value
  | .n i, .mk (.xc vs g it c el), .Name y py, .ListComp _ _ scope pos => okLocal C i y && (py.line == pos.line) && !(scope.names.any fun (n, k) => n == y && (k == .local || k == .cell)) && chkX C (.xc vs g it c el) value
  | _, _, _, _ => false
/-- a value that is stored behind its place is looked at -/
def nswS (e : Expr) : Bool := !isLc e
mutual
def chkS (C : Cg) (t : T) (st : Stmt) : Bool := match t with
  | .asg tg e => (match st with
    | .Assign [target] value _ => (nswT C target value && noSwap C target value && chkG C tg target && chkE C e value) || chkLc C tg e target value
    | _ => false)
  | .par i j a b => (match st with
    | .Assign [.Tuple [.Name x px, .Name y py] _ _] (.Tuple [u, v] _ _) _ => okLocal C i x && okLocal C j y && decide (i ≠ j) && decide (x ≠ y) && (px.line == py.line) && ns u && ns v && !(foldedForSure 8 u && foldedForSure 8 v) && !(constantsAlone 8 u && constantsAlone 8 v) && chkE C a u && chkE C b v
    | _ => false)
  | .put i k v => (match st with
    | .Assign [.Subscript (.Name x _) y _] value _ => okSlot C i x && nswS value && chkE C k y && chkE C v value
    | _ => false)
  | .ex e => (match st with | .Expr value _ => !isLc value && chkE C e value | _ => false)
  | .ret e => (match st with | .Return (some value) _ => chkE C e value | .Return none _ => (match e with | .k .non => true | _ => false) | _ => false)
  | .iff c a b => (match st with | .If x y z _ => tst c && chkE C c x && chkSs C a y && chkSs C b z | _ => false)
  | .for_ tg it b => (match st with | .For target iter body [] _ => nset iter && chkI C it target iter && chkG C tg target && chkSs C b body | _ => false)
  | .forD tg k i b => (match st with | .For target iter body [] _ => nset iter && chkD C k i target iter && chkG C tg target && chkSs C b body | _ => false)
  | .whl c b => (match st with | .While x body [] _ => tst c && chkE C c x && chkSs C b body | _ => false)
  | .rse i => chkRaise C i st
  | .cont => (match st with | .Continue _ => true | _ => false)
  | .brk => (match st with | .Break _ => true | _ => false)
  | .pass => (match st with | .Pass _ => true | _ => false)
  | .bad => true
  | _ => false
def chkSs (C : Cg) (t : T) (sts : List Stmt) : Bool := match t with
  | .nil => sts.isEmpty
  | .bad => true
  | .cons a b => (match sts with | s :: r => chkS C a s && chkSs C b r | [] => false)
  | _ => false
end
end Bp

namespace Bp
open PySem L2
def SS (t : T) : Prop := ∀ (B : Fm) (C : Cg) (X : Cx) (W : WN) (st : Stmt), Ctx3 C X W → chkS C t st = true → PS X st (tS C X.K B W t)
def SSs (t : T) : Prop := ∀ (B : Fm) (C : Cg) (X : Cx) (W : WN) (sts : List Stmt), Ctx3 C X W → chkSs C t sts = true → PSs X sts (tS C X.K B W t)
/-- an exception of an expression, as a statement's -/
theorem exP_res {K : PySem.W.Frag} {B : Fm} {W : WN} {I : Hp} {M : List Addr} {r : Rho} {S : Sto} {c : Nat} {σ : L2.St} {D : Ends} (h : resS K B W I M (.ex c r S) D) (sl : Sl K I M r σ) : exP K B I M S (W c σ) := fun I' M' H' le R => h I' M' H' σ le R (sl.mono le)
/-- from a value to the store -/
theorem asg_go {C : Cg} {K : PySem.W.Frag} {B : Fm} {W : WN} {tg : Tg} {e : T} {D : Ends} {σ : L2.St} {H : Hp} (h : tS C K B W (.asg tg e) D σ H) : tE C K B W e σ H fun v H1 => tG K B tg v σ H1 D.nx := by
  obtain ⟨I, M, r, S, R, sl, m⟩ := h
  refine ⟨I, M, r, S, R, sl, ?_⟩
  simp only [evS] at m
  cases e1 : evE C.E e r S with
  | ex c S1 => rw [e1] at m; exact exP_res m sl
  | no => rw [e1] at m; exact m
  | ok d S1 =>
    rw [e1] at m
    simp only at m
    intro I' M' H' v le R' rp
    cases e2 : setT tg d r with
    | none => rw [e2] at m; exact m.elim
    | some r' =>
      rw [e2] at m
      exact ⟨I', M', r, S1, d, r', R', sl.mono le, rp, e2, fun σ' sl' _ => m I' M' H' σ' le R' sl'⟩
theorem asg_goN {C : Cg} {K : PySem.W.Frag} {B : Fm} {W : WN} {i : Nat} {e : T} {D : Ends} {σ : L2.St} {H : Hp} (h : tS C K B W (.asg (.n i) e) D σ H) : tE C K B W e σ H fun v H1 => gName i v σ H1 D.nx := by
  obtain ⟨I, M, r, S, R, sl, m⟩ := h
  refine ⟨I, M, r, S, R, sl, ?_⟩
  simp only [evS] at m
  cases e1 : evE C.E e r S with
  | ex c S1 => rw [e1] at m; exact exP_res m sl
  | no => rw [e1] at m; exact m
  | ok d S1 =>
    rw [e1] at m
    simp only [setT] at m
    intro I' M' H' v le R' rp
    split at m
    · rename_i r' heq
      split at heq <;> cases heq
      exact m I' M' H' _ le R' ((sl.mono le).set rp)
    · exact m.elim
/-- the block of a comprehension, stored at once -/
theorem lc_store {B : Fm} {C : Cg} {X : Cx} {W : WN} (cx : Ctx3 C X W) {i : Nat} {y : Str} {py pos spos : Pos} {vs : List Nat} {g : Tg} {it c el : T} {e : Expr} {gs : List Comprehension} {scope : Scope} (h0 : okLocal C i y = true) (hl : (py.line == pos.line) = true)
    (ha : (scope.names.any fun (n, k) => n == y && (k == .local || k == .cell)) = false) (hx : chkX C (.xc vs g it c el) (.ListComp e gs scope pos) = true) {D : Ends → L2.St → Hp → Prop} (k : ∀ Ds σ H, D Ds σ H → tX C X.K B W (.xc vs g it c el) σ H fun v H1 => gName i v σ H1 Ds.nx) :
    PS X (.Assign [.Name y py] (.ListComp e gs scope pos) spos) D := by
  obtain ⟨elt, gt, gi, gf, scope', pos', e1, h2, h3, h4, h5, hsub, h7, h8⟩ := xc_parts hx
  cases e1
  have hown : (ownOf C vs).map (·.2) = vs := by
    unfold ownOf
    rw [List.map_map]
    exact List.map_id' vs
  have ok : BlkOk X.N X.env.scope scope (ownOf C vs) := by
    rw [cx.hN, cx.sc]
    exact blkOk_by h2
  simp only [okLocal, Bool.and_eq_true, decide_eq_true_eq] at h0
  have hyl : X.env.scope.names.lookup y = some .local := by
    rw [cx.sc]; exact h0.2
  have base := ps_setLc (spos := spos) (pos := pos) (elt := e) (g := gX X.K g) (te := eX (C.blk scope) X.K el) cx.calm cx.nd (by rw [cx.hN]; exact h0.1) hyl (sw_true cx.skind hyl hl ha) ((snd it).i B C X W gt gi cx.toCtx2 h3) ok (fun s H Ca cl fp => PG.ex fun B => pg_ok (B := B) (cx.toCtx2.blk scope s H Ca cl fp).toCtx h5) (compR_red cx.toCtx2 (fun B h => (snd c).t B h) h7)
    (fun s H Ca cl fp => PE.ex fun B => (snd el).e B (C.blk scope) _ _ e (cx.toCtx2.blk scope s H Ca cl fp) h8) (nset_fold h4 X.env)
  rw [hown] at base
  exact PS.imp base fun Ds σ H q => xc_imp hsub _ _ _ (k Ds σ H q)
theorem s_asg (tg : Tg) (e : T) : SS (.asg tg e) := by
  intro B C X W st cx h
  have h' : (match (generalizing := false) st with
    | .Assign [target] value _ => (nswT C target value && noSwap C target value && chkG C tg target && chkE C e value) || chkLc C tg e target value
    | _ => false) = true := h
  split at h'
  · rename_i target value pos
    rw [Bool.or_eq_true] at h'
    rcases h' with h' | h'
    · simp only [Bool.and_eq_true] at h'
      obtain ⟨⟨⟨h1, h2⟩, h3⟩, h4⟩ := h'
      exact PS.imp (ps_asg ((snd e).e B C X W value cx.toCtx2 h4) (pg_ok (B := B) cx.toCtx h3) (nswT_eq cx.toCtx h1 _) (noSwap_eq cx.toCtx h2) (by rw [chkG_star h3]; rfl)) fun D σ H q => asg_go q
    · unfold chkLc at h'
      split at h' <;> first | (cases h'; done) | skip
      all_goals
        simp only [Bool.and_eq_true, Bool.not_eq_true'] at h'
        obtain ⟨⟨⟨h1, h2⟩, h3⟩, h4⟩ := h'
      · exact lc_store cx h1 h2 h3 h4 fun Ds σ H q => im_tX _ _ _ (asg_goN q)
      · exact lc_store cx h1 h2 h3 h4 fun Ds σ H q => mk_tX _ _ _ (asg_goN q)
  · cases h'
theorem swap_eq {C : Cg} {X : Cx} {W : WN} (cx : Ctx3 C X W) {x y : Str} {px py pt pt2 : Pos} {kt k2 : Nat} {u v : Expr} (hx : C.sc.names.lookup x = some .local) (hy : C.sc.names.lookup y = some .local) (hxy : x ≠ y) (hl : (px.line == py.line) = true) (n1 : ns u = true) (n2 : ns v = true)
    (f : (foldedForSure 8 u && foldedForSure 8 v) = false) (k : (constantsAlone 8 u && constantsAlone 8 v) = false) : swappedStores [.Tuple [.Name x px, .Name y py] kt pt] (.Tuple [u, v] k2 pt2) X.env = pure (some [x, y]) := by
  have kx : X.env.kindOf x = some .local := by
    show X.env.scope.names.lookup x = _
    rw [cx.sc]; exact hx
  have ky : X.env.kindOf y = some .local := by
    show X.env.scope.names.lookup y = _
    rw [cx.sc]; exact hy
  have s1 : ∀ F : Expr → Bool, (∀ e, ns e = true → F e = false) → ¬ [u, v].any F = true := fun F hF z => by
    simp [hF u n1, hF v n2] at z
  have hl2 : (py.line == px.line) = true := by
    rw [beq_iff_eq] at hl ⊢
    exact hl.symm
  have ed : [x, y].eraseDups.length = 2 := by
    have : (y == x) = false := beq_eq_false_iff_ne.mpr (Ne.symm hxy)
    simp [List.eraseDups_cons, this]
  have fa : [u, v].all (foldedForSure 8) = false := by simpa using f
  have ca : [u, v].all (constantsAlone 8) = false := by simpa using k
  unfold swappedStores
  simp only [cx.kind, pure_bind, List.length_cons, List.length_nil]
  rw [if_neg (by decide), if_neg (s1 _ fun e h => by cases e <;> first | rfl | cases h)]
  have fm : ∀ F : Expr → Option Str, F (.Name x px) = some x → F (.Name y py) = some y → [Expr.Name x px, Expr.Name y py].filterMap F = [x, y] := fun F h1 h2 => by simp [List.filterMap_cons, h1, h2]
  generalize hfm : List.filterMap _ [Expr.Name x px, Expr.Name y py] = nm
  have : nm = [x, y] := by
    rw [← hfm]
    refine fm _ ?_ ?_
    · simp [kx, Expr.pos]
    · simp only [ky, List.head?_cons, Option.map_some, Option.getD_some, Expr.pos, hl2, beq_self_eq_true, Bool.and_self, if_true]
  subst this
  simp only [ed, fa, ca, List.length_cons, List.length_nil]
  rfl
theorem s_par (i j : Nat) (a b : T) : SS (.par i j a b) := by
  intro B C X W st cx h
  have h' : (match (generalizing := false) st with
    | .Assign [.Tuple [.Name x px, .Name y py] _ _] (.Tuple [u, v] _ _) _ => okLocal C i x && okLocal C j y && decide (i ≠ j) && decide (x ≠ y) && (px.line == py.line) && ns u && ns v && !(foldedForSure 8 u && foldedForSure 8 v) && !(constantsAlone 8 u && constantsAlone 8 v) && chkE C a u && chkE C b v
    | _ => false) = true := h
  split at h'
  · rename_i x px y py kt pt u v k2 pt2 pos
    simp only [okLocal, Bool.and_eq_true, decide_eq_true_eq, Bool.not_eq_true'] at h'
    obtain ⟨⟨⟨⟨⟨⟨⟨⟨⟨⟨⟨h1, h2⟩, h3, h4⟩, h5⟩, h6⟩, h7⟩, h8⟩, h9⟩, h10⟩, h11⟩, h12⟩, h13⟩ := h'
    have ha : chkA C (.cons a (.cons b .nil)) [u, v] = true := by
      show (chkE C a u && ns u && (chkE C b v && ns v && true)) = true
      rw [h12, h13, h8, h9]; rfl
    refine PS.imp (ps_par (i := i) (j := j) cx.calm cx.nd (by rw [cx.hN]; exact h1) (by rw [cx.hN]; exact h3) h5 (by rw [cx.sc]; exact h2) (by rw [cx.sc]; exact h4) ((snd (.cons a (.cons b .nil))).a B C X W _ cx.toCtx2 ha) (swap_eq cx h2 h4 h6 h7 h8 h9 h10 h11)) ?_
    rintro D σ H ⟨I, M, r, S, R, sl, m⟩
    refine ⟨I, M, r, S, R, sl, ?_⟩
    simp only [evS] at m
    simp only [evA]
    cases e1 : evE C.E a r S with
    | ex c S1 => rw [e1] at m; exact exP_res m sl
    | no => rw [e1] at m; exact m
    | ok d S1 =>
      rw [e1] at m
      simp only [Bp.R.bind] at m ⊢
      cases e2 : evE C.E b r S1 with
      | ex c S2 => rw [e2] at m; exact exP_res m sl
      | no => rw [e2] at m; exact m
      | ok d2 S2 =>
        rw [e2] at m
        simp only at m ⊢
        intro I' M' H' vs le R' ra
        cases ra with
        | cons r1 rr =>
          cases rr with
          | cons r2 rr =>
            cases rr
            refine ⟨_, _, rfl, ?_⟩
            split at m
            · exact m I' M' H' _ le R' (((sl.mono le).set r1).set r2)
            · exact m.elim
  · cases h'
theorem s_put (i : Nat) (k v : T) : SS (.put i k v) := by
  intro B C X W st cx h
  have h' : (match (generalizing := false) st with
    | .Assign [.Subscript (.Name x _) y _] value _ => okSlot C i x && nswS value && chkE C k y && chkE C v value
    | _ => false) = true := h
  split at h'
  · rename_i x px y py value pos
    simp only [nswS, Bool.and_eq_true, Bool.not_eq_true'] at h'
    obtain ⟨⟨⟨h1, h2⟩, h3⟩, h4⟩ := h'
    refine PS.imp (ps_dput (hu_of cx.room) (okSlot_pe cx.toCtx (i := i) (pos := px) h1) ((snd k).e B C X W y cx.toCtx2 h3) ((snd v).e B C X W value cx.toCtx2 h4) (nsw h2 _ _ _)) ?_
    rintro D σ H ⟨I, M, r, S, R, sl, m⟩
    refine ⟨I, M, r, S, R, sl, ?_⟩
    simp only [evS] at m
    cases e1 : evE C.E v r S with
    | ex c S1 => rw [e1] at m; exact exP_res m sl
    | no => rw [e1] at m; exact m
    | ok z S1 =>
      rw [e1] at m
      simp only at m
      intro I1 M1 H1 vv le1 R1 rp1
      cases hn : slotLoc r i with
      | none => rw [hn] at m; exact m.elim
      | some n =>
        rw [hn] at m
        simp only at m
        by_cases hl : isPut S1 n = true
        · rw [if_pos hl] at m
          obtain ⟨w, hw, rp⟩ := (sl.mono le1).2 i _ (slotLoc_eq hn)
          cases rp with
          | loc hM =>
            rename_i a
            refine ⟨_, hw, I1, M1, r, S1, R1, sl.mono le1, ?_⟩
            cases e2 : evE C.E k r S1 with
            | ex c S2 => rw [e2] at m; exact exP.mono (exP_res m sl) le1
            | no => rw [e2] at m; exact m
            | ok yy S2 =>
              rw [e2] at m
              simp only at m
              intro I2 M2 H2 u le2 R2 rp2
              cases e3 : putS S2 n (res S2 yy) z with
              | none => rw [e3] at m; exact m.elim
              | some S3 =>
                rw [e3] at m
                have hp2 : isPut S2 n = true := by
                  unfold putS at e3
                  unfold isPut
                  cases hS : S2[n]? with
                  | none => rw [hS] at e3; cases e3
                  | some cl =>
                    rw [hS] at e3
                    cases cl <;> first | rfl | (cases e3; done) | (exfalso; revert e3; cases res S2 yy <;> (intro e3; cases e3))
                obtain ⟨H3, dp, R3⟩ := put_ok R2 (le2.m _ _ hM) hp2 e3 (R2.top rp2) (rp1.mono le2)
                exact ⟨a, H3, rfl, dp, m _ _ _ _ (le1.trans le2) R3 ((sl.mono le1).mono le2)⟩
        · rw [if_neg hl] at m; exact m.elim
  · cases h'
theorem s_ex (e : T) : SS (.ex e) := by
  intro B C X W st cx h
  cases st <;> first | (exact absurd h Bool.false_ne_true) | skip
  rename_i value pos
  have h' : (!isLc value && chkE C e value) = true := h
  simp only [Bool.and_eq_true, Bool.not_eq_true'] at h'
  refine PS.imp (ps_expr ((snd e).e B C X W value cx.toCtx2 h'.2) (nsw h'.1 _ _ _)) ?_
  rintro D σ H ⟨I, M, r, S, R, sl, m⟩
  refine ⟨I, M, r, S, R, sl, ?_⟩
  simp only [evS] at m
  cases e1 : evE C.E e r S with
  | ex c S1 => rw [e1] at m; exact exP_res m sl
  | no => rw [e1] at m; exact m
  | ok d S1 =>
    rw [e1] at m
    exact fun I' M' H' v le R' rp => m I' M' H' σ le R' (sl.mono le)
theorem s_ret (e : T) : SS (.ret e) := by
  intro B C X W st cx h
  cases st <;> first | (exact absurd h Bool.false_ne_true) | skip
  rename_i o pos
  cases o with
  | some value =>
    have h' : chkE C e value = true := h
    refine PS.imp (ps_ret ((snd e).e B C X W value cx.toCtx2 h')) ?_
    rintro D σ H ⟨I, M, r, S, R, sl, m⟩
    refine ⟨I, M, r, S, R, sl, ?_⟩
    simp only [evS] at m
    cases e1 : evE C.E e r S with
    | ex c S1 => rw [e1] at m; exact exP_res m sl
    | no => rw [e1] at m; exact m
    | ok d S1 => rw [e1] at m; exact m
  | none =>
    have h' : (match (generalizing := false) e with | .k .non => true | _ => false) = true := h
    split at h'
    · refine PS.imp ps_retN ?_
      rintro D σ H ⟨I, M, r, S, R, sl, m⟩
      exact okP.now m R .non
    · cases h'
theorem s_iff (c a b : T) (ha : SSs a) (hb : SSs b) : SS (.iff c a b) := by
  intro B C X W st cx h
  cases st <;> first | (exact absurd h Bool.false_ne_true) | skip
  rename_i x y z pos
  have h' : (tst c && chkE C c x && chkSs C a y && chkSs C b z) = true := h
  simp only [Bool.and_eq_true] at h'
  refine PS.imp (ps_if ((snd c).t B h'.1.1.1 C X W x cx.toCtx2 h'.1.1.2) (ha B C X W y cx h'.1.2) (hb B C X W z cx h'.2)) ?_
  rintro D σ H ⟨I, M, r, S, R, sl, m⟩
  refine ⟨I, M, r, S, R, sl, ?_⟩
  simp only [evS] at m
  cases e1 : evE C.E c r S with
  | ex c S1 => rw [e1] at m; exact exP_res m sl
  | no => rw [e1] at m; exact m
  | ok d S1 =>
    rw [e1] at m
    cases d <;> first | exact m.elim | skip
    rename_i bb
    intro I' M' H' le R'
    cases bb with
    | true =>
      rw [if_pos rfl]
      exact ⟨I', M', r, S1, R', sl.mono le, resS.mono m le⟩
    | false =>
      rw [if_neg Bool.false_ne_true]
      exact ⟨I', M', r, S1, R', sl.mono le, resS.mono m le⟩
theorem s_rse (i : Nat) : SS (.rse i) := by
  intro B C X W st cx h
  have h' : chkRaise C i st = true := h
  unfold chkRaise at h'
  split at h'
  · rename_i x p m j p2 pos2 pos
    simp only [okName, Bool.and_eq_true, decide_eq_true_eq] at h'
    obtain ⟨⟨⟨h1, h2⟩, h3, h4⟩, h0⟩ := h'
    obtain ⟨Ca, BB, newId, initId, bmB, e1, F, q, gC, kC, rC⟩ := cx.exc i x h1 h0
    refine PS.imp (ps_raise cx.calm cx.takes (pmk_own F q gC kC rC (cx.gl h2) (beq_eq_false_iff_ne.mpr h3))) ?_
    rintro D σ H ⟨I, M, r, S, R, sl, m⟩
    exact ⟨i, e1.symm, rfl, m I M H σ Le.refl R sl⟩
  · cases h'
theorem s_cont : SS .cont := by
  intro B C X W st cx h
  cases st <;> first | (exact absurd h Bool.false_ne_true) | skip
  refine PS.imp ps_continue ?_
  rintro D σ H ⟨I, M, r, S, R, sl, m⟩
  exact m I M H σ Le.refl R sl
theorem s_brk : SS .brk := by
  intro B C X W st cx h
  cases st <;> first | (exact absurd h Bool.false_ne_true) | skip
  refine PS.imp ps_break ?_
  rintro D σ H ⟨I, M, r, S, R, sl, m⟩
  exact m I M H σ Le.refl R sl
theorem s_pass : SS .pass := by
  intro B C X W st cx h
  cases st <;> first | (exact absurd h Bool.false_ne_true) | skip
  refine PS.imp ps_pass ?_
  rintro D σ H ⟨I, M, r, S, R, sl, m⟩
  exact m I M H σ Le.refl R sl
theorem s_bad : SS .bad := by
  intro B C X W st cx h
  refine ⟨fun pins s σ H D I q => ?_⟩
  obtain ⟨_, _, _, _, _, _, m⟩ := q
  exact m.elim
theorem ss_bad : SSs .bad := by
  intro B C X W st cx h
  refine ⟨fun pins s σ H D I q => ?_⟩
  obtain ⟨_, _, _, _, _, _, m⟩ := q
  exact m.elim
theorem ss_nil : SSs .nil := by
  intro B C X W sts cx h
  cases sts with
  | cons _ _ => cases h
  | nil =>
    refine PSs.imp pss_nil ?_
    rintro D σ H ⟨I, M, r, S, R, sl, m⟩
    exact m I M H σ Le.refl R sl
theorem ss_cons (a b : T) (ha : SS a) (hb : SSs b) : SSs (.cons a b) := by
  intro B C X W sts cx h
  cases sts with
  | nil => cases h
  | cons s rest =>
    have h' : (chkS C a s && chkSs C b rest) = true := h
    simp only [Bool.and_eq_true] at h'
    refine PSs.imp (pss_cons (ha B C X W s cx h'.1) (hb B C X W rest cx h'.2)) ?_
    rintro D σ H ⟨I, M, r, S, R, sl, m⟩
    refine ⟨I, M, r, S, R, sl, ?_⟩
    simp only [evS] at m
    cases e1 : evS C.E a r S with
    | nx r1 S1 =>
      rw [e1] at m
      exact fun I' M' H' σ' le R' sl' => ⟨I', M', r1, S1, R', sl', resS.mono m le⟩
    | ct r1 S1 => rw [e1] at m; exact m
    | bk r1 S1 => rw [e1] at m; exact m
    | rt d S1 => rw [e1] at m; exact m
    | ex c r1 S1 => rw [e1] at m; exact m
    | no => rw [e1] at m; exact m
/-- in whatever frame -/
def tSx (C : Cg) (K : PySem.W.Frag) (W : WN) (t : T) : TS := fun D σ H => ∃ B : Fm, tS C K B W t D σ H
theorem for_core {C : Cg} {K : PySem.W.Frag} {B : Fm} {W : WN} {tg : Tg} {b : T} {I1 : Hp} {M1 : List Addr} {S1 : Sto} {H1 : Hp} {r : Rho} {σ : L2.St} {ds : List Bp.D} {J : It} {D : Ends} (R1 : Rel K B I1 M1 S1 H1) (wd : WalkD K B I1 M1 ds J) (sl1 : Sl K I1 M1 r σ) (m : resS K B W I1 M1 (forL tg (fun r S => evS C.E b r S) ds r S1) D) :
    tFor (fun _ H R => R J H) (gX K tg) (tSx C K W b) D σ H1 := by
  obtain ⟨G, Y, wk, hG, hY⟩ := wd
  refine for_it wk (fun i σ2 H2 => ∃ I2 M2 r2 S2, Le I1 M1 I2 M2 ∧ Rel K B I2 M2 S2 H2 ∧ Sl K I2 M2 r2 σ2 ∧ resS K B W I2 M2 (forL tg (fun r S => evS C.E b r S) (ds.drop i) r2 S2) D) ?_ ?_ ?_ ?_
  · exact ⟨I1, M1, r, S1, Le.refl, R1, sl1, by rw [List.drop_zero]; exact m⟩
  · rintro i σ2 H2 hi ⟨I2, M2, r2, S2, le2, R2, _⟩
    exact hG I2 M2 S2 H2 le2 R2
  · rintro i x σ2 H2 H3 hi ⟨I2, M2, r2, S2, le2, R2, sl2, mm⟩ hy
    have hdi : ds[i]? = some ds[i] := by simp [hi]
    obtain ⟨I3, R3, le3, rp3, _⟩ := (hY i _ H2 x H3 hdi hy).step R2 le2
    rw [List.drop_eq_getElem_cons hi] at mm
    simp only [forL] at mm
    cases e2 : setT tg ds[i] r2 with
    | none => rw [e2] at mm; exact mm.elim
    | some r3 =>
      rw [e2] at mm
      simp only at mm
      refine ⟨B, I3, M2, r2, S2, ds[i], r3, R3, sl2.mono le3, rp3, e2, fun σ3 sl3 _ => ⟨B, I3, M2, r3, S2, R3, sl3, ?_⟩⟩
      have le23 := le2.trans le3
      cases e3 : evS C.E b r3 S2 with
      | nx r4 S4 =>
        rw [e3] at mm
        exact fun I' M' H' σ' le R' sl' => ⟨I', M', r4, S4, le23.trans le, R', sl', resS.mono mm (le3.trans le)⟩
      | ct r4 S4 =>
        rw [e3] at mm
        exact fun I' M' H' σ' le R' sl' => ⟨I', M', r4, S4, le23.trans le, R', sl', resS.mono mm (le3.trans le)⟩
      | bk r4 S4 =>
        rw [e3] at mm
        exact fun I' M' H' σ' le R' sl' => mm I' M' H' σ' (le3.trans le) R' sl'
      | rt d S4 => rw [e3] at mm; exact okP.mono mm le3
      | ex c r4 S4 =>
        rw [e3] at mm
        exact fun I' M' H' σ' le R' sl' => mm I' M' H' σ' (le3.trans le) R' sl'
      | no => rw [e3] at mm; exact mm
  · rintro σ2 H2 ⟨I2, M2, r2, S2, le2, R2, sl2, mm⟩
    rw [List.drop_length] at mm
    exact mm I2 M2 H2 σ2 Le.refl R2 sl2
theorem s_for (tg : Tg) (it b : T) (hb : SSs b) : SS (.for_ tg it b) := by
  intro B C X W st cx h
  have h' : (match (generalizing := false) st with | .For target iter body [] _ => nset iter && chkI C it target iter && chkG C tg target && chkSs C b body | _ => false) = true := h
  split at h'
  · rename_i target iter body pos
    simp only [Bool.and_eq_true] at h'
    obtain ⟨⟨⟨h1, h2⟩, h3⟩, h4⟩ := h'
    refine PS.imp (ps_for cx.own cx.calm ((snd it).i B C X W target iter cx.toCtx2 h2) (pg_ok (B := B) cx.toCtx h3) (hb B C X W body cx h4) (nset_fold h1 X.env)) ?_
    rintro D σ H ⟨I, M, r, S, R, sl, m⟩
    refine ⟨I, M, r, S, R, sl, ?_⟩
    simp only [evS] at m
    cases e1 : evI C.E it r S with
    | ex c S1 => rw [e1] at m; exact exP_res m sl
    | no => rw [e1] at m; exact m
    | ok ds S1 =>
      rw [e1] at m
      simp only at m
      intro I1 M1 H1 J le1 R1 wd
      obtain ⟨G, Y, wk, hG, hY⟩ := wd
      refine for_it wk (fun i σ2 H2 => ∃ I2 M2 r2 S2, Le I1 M1 I2 M2 ∧ Rel X.K B I2 M2 S2 H2 ∧ Sl X.K I2 M2 r2 σ2 ∧ resS X.K B W I2 M2 (forL tg (fun r S => evS C.E b r S) (ds.drop i) r2 S2) D) ?_ ?_ ?_ ?_
      · exact ⟨I1, M1, r, S1, Le.refl, R1, sl.mono le1, by rw [List.drop_zero]; exact resS.mono m le1⟩
      · rintro i σ2 H2 hi ⟨I2, M2, r2, S2, le2, R2, _⟩
        exact hG I2 M2 S2 H2 le2 R2
      · rintro i x σ2 H2 H3 hi ⟨I2, M2, r2, S2, le2, R2, sl2, mm⟩ hy
        have hdi : ds[i]? = some ds[i] := by simp [hi]
        obtain ⟨I3, R3, le3, rp3, _⟩ := (hY i _ H2 x H3 hdi hy).step R2 le2
        rw [List.drop_eq_getElem_cons hi] at mm
        simp only [forL] at mm
        cases e2 : setT tg ds[i] r2 with
        | none => rw [e2] at mm; exact mm.elim
        | some r3 =>
          rw [e2] at mm
          simp only at mm
          refine ⟨I3, M2, r2, S2, ds[i], r3, R3, sl2.mono le3, rp3, e2, fun σ3 sl3 _ => ⟨I3, M2, r3, S2, R3, sl3, ?_⟩⟩
          have le23 := le2.trans le3
          cases e3 : evS C.E b r3 S2 with
          | nx r4 S4 =>
            rw [e3] at mm
            exact fun I' M' H' σ' le R' sl' => ⟨I', M', r4, S4, le23.trans le, R', sl', resS.mono mm (le3.trans le)⟩
          | ct r4 S4 =>
            rw [e3] at mm
            exact fun I' M' H' σ' le R' sl' => ⟨I', M', r4, S4, le23.trans le, R', sl', resS.mono mm (le3.trans le)⟩
          | bk r4 S4 =>
            rw [e3] at mm
            exact fun I' M' H' σ' le R' sl' => mm I' M' H' σ' (le3.trans le) R' sl'
          | rt d S4 => rw [e3] at mm; exact okP.mono mm le3
          | ex c r4 S4 =>
            rw [e3] at mm
            exact fun I' M' H' σ' le R' sl' => mm I' M' H' σ' (le3.trans le) R' sl'
          | no => rw [e3] at mm; exact mm
      · rintro σ2 H2 ⟨I2, M2, r2, S2, le2, R2, sl2, mm⟩
        rw [List.drop_length] at mm
        exact mm I2 M2 H2 σ2 Le.refl R2 sl2
  · cases h'
/-- nothing is raised there -/
theorem Ctx3.none {C : Cg} {X : Cx} {W : WN} (cx : Ctx3 C X W) : Ctx3 C X (fun _ _ _ => False) := { cx with
  takes := cx.takes.imp fun cl d σ H' q => by
    obtain ⟨_, _, _, z⟩ := q
    exact z.elim }
theorem s_forD (tg : Tg) (k : I1) (i : Nat) (b : T) (hb : SSs b) : SS (.forD tg k i b) := by
  intro B C X W st cx h
  have h' : (match (generalizing := false) st with | .For target iter body [] _ => nset iter && chkD C k i target iter && chkG C tg target && chkSs C b body | _ => false) = true := h
  split at h'
  · rename_i target iter body pos
    simp only [Bool.and_eq_true] at h'
    obtain ⟨⟨⟨h1, h2⟩, h3⟩, h4⟩ := h'
    have hbx : PSs X body (tSx C X.K (fun _ _ _ => False) b) := ⟨fun pins s σ H D I ⟨B', q⟩ => (hb B' C X (fun _ _ _ => False) body cx.none h4).run pins s σ H D I q⟩
    have base := ps_for (pos := pos) (g := gX X.K tg) cx.own cx.calm (pi_dict cx.toCtx h2) (PG.ex fun B' => pg_ok (B := B') cx.toCtx h3) hbx (nset_fold h1 X.env)
    refine ⟨fun pins s σ H D Iv q => ?_⟩
    obtain ⟨I, M, r, S, R, sl, m⟩ := q
    simp only [evS] at m
    cases hr : r[i]? with
    | none => rw [hr] at m; exact m.elim
    | some od0 =>
      cases od0 with
      | none => rw [hr] at m; exact m.elim
      | some d =>
        rw [hr] at m
        simp only at m
        cases hw : dWalk k d with
        | none => rw [hw] at m; exact m.elim
        | some ds =>
          rw [hw] at m
          simp only at m
          obtain ⟨v, hv, rp⟩ := sl.2 i d hr
          have main : ∀ {a : Addr} {u : HO}, v = .ref a → I a = some u → isDict u = true → (∀ {B' : Fm} {ob : Obj}, (∀ {I' M' S' H'}, Rel X.K B' I' M' S' H' → H' a = some (.frz ob u)) → ∃ J, WalkD X.K B' I M ds J ∧ ∀ {σ : L2.St} {H : Hp} {R : It → Hp → Prop}, σ[i]? = some (some v) → H a = some (.frz ob u) → R J H → iDict k i σ H R) →
              wpAny (model X.prog X.w) X.A (exec (.For target iter body [] pos) X.env) (SP X pins D) X.xe s := by
            intro a u ev hI hd mk
            rcases R.sub a u hI with ⟨nL, hH⟩ | ⟨lL, ob, hH⟩
            · refine (ps_lock base).run pins s σ H D Iv ⟨a, u, hH, (by cases u <;> first | trivial | cases hd), fun od => ?_⟩
              obtain ⟨J, wd, go⟩ := mk (B' := B.lockAt I M S H a (.frz od u)) (ob := od) (fun R2 => R.locked hI hd hH R2)
              refine go hv upd_same ?_
              refine for_core (C := C) (W := fun _ _ _ => False) (tg := tg) (b := b) (R.relock (od := od) hI hd hH) wd sl ?_
              cases hf : forL tg (fun r S => evS C.E b r S) ds r S with
              | no => rw [hf] at m; exact m.elim
              | ex c r1 S1 => rw [hf] at m; exact m.elim
              | nx r1 S1 => rw [hf] at m; exact fun I' M' H' σ' le R' sl' => ⟨R.locked hI hd hH R', m I' M' _ σ' le (R.unlockB hI hd hH nL R') sl'⟩
              | ct r1 S1 => rw [hf] at m; exact fun I' M' H' σ' le R' sl' => ⟨R.locked hI hd hH R', m I' M' _ σ' le (R.unlockB hI hd hH nL R') sl'⟩
              | bk r1 S1 => rw [hf] at m; exact fun I' M' H' σ' le R' sl' => ⟨R.locked hI hd hH R', m I' M' _ σ' le (R.unlockB hI hd hH nL R') sl'⟩
              | rt d S1 => rw [hf] at m; exact fun I' M' H' v le R' rp => ⟨R.locked hI hd hH R', m I' M' _ v le (R.unlockB hI hd hH nL R') rp⟩
            · obtain ⟨J, wd, go⟩ := mk (B' := B.at I M S H) (ob := ob) (fun R2 => R.stays hH hI R2)
              refine base.run pins s σ H D Iv (go hv hH ?_)
              refine for_core (C := C) (W := fun _ _ _ => False) (tg := tg) (b := b) R.rebase wd sl ?_
              cases hf : forL tg (fun r S => evS C.E b r S) ds r S with
              | no => rw [hf] at m; exact m.elim
              | ex c r1 S1 => rw [hf] at m; exact m.elim
              | nx r1 S1 => rw [hf] at m; exact fun I' M' H' σ' le R' sl' => m I' M' _ σ' le (R.unbase R') sl'
              | ct r1 S1 => rw [hf] at m; exact fun I' M' H' σ' le R' sl' => m I' M' _ σ' le (R.unbase R') sl'
              | bk r1 S1 => rw [hf] at m; exact fun I' M' H' σ' le R' sl' => m I' M' _ σ' le (R.unbase R') sl'
              | rt d S1 => rw [hf] at m; exact fun I' M' H' v le R' rp => m I' M' _ v le (R.unbase R') rp
          rcases slot_dict rp hw with ⟨a, kvs, ks, ws, rfl, rfl, g1, g2, g3⟩ | ⟨a, kvs, ks, ws, rfl, rfl, g1, g2, g3⟩
          · exact main rfl g1 rfl fun {B' ob} hG => ⟨JT k a ob kvs, walkD_T hG g2 g3 hw, fun h1 h2 h3 => ⟨a, h1, .inl ⟨ob, kvs, h2, h3⟩⟩⟩
          · exact main rfl g1 rfl fun {B' ob} hG => ⟨JK k a ob kvs, walkD_K hG g2 g3 hw, fun h1 h2 h3 => ⟨a, h1, .inr ⟨ob, kvs, h2, h3⟩⟩⟩
  · cases h'
theorem s_whl (c b : T) (hb : SSs b) : SS (.whl c b) := by
  intro B C X W st cx h
  have h' : (match (generalizing := false) st with | .While x body [] _ => tst c && chkE C c x && chkSs C b body | _ => false) = true := h
  split at h'
  · rename_i x body pos
    simp only [Bool.and_eq_true] at h'
    refine PS.imp (ps_while cx.own ((snd c).t B h'.1.1 C X W x cx.toCtx2 h'.1.2) (hb B C X W body cx h'.2)) ?_
    rintro D σ H ⟨I, M, r, S, R, sl, m⟩
    simp only [evS] at m
    refine ⟨fun n σ2 H2 => ∃ I2 M2 r2 S2, Le I M I2 M2 ∧ Rel X.K B I2 M2 S2 H2 ∧ Sl X.K I2 M2 r2 σ2 ∧ resS X.K B W I2 M2 (whileL (fun r S => evE C.E c r S) (fun r S => evS C.E b r S) n r2 S2) D, ⟨fuelW, I, M, r, S, Le.refl, R, sl, m⟩, ?_⟩
    rintro n σ2 H2 ⟨I2, M2, r2, S2, le2, R2, sl2, mm⟩
    cases n with
    | zero => exact mm.elim
    | succ n =>
      refine ⟨I2, M2, r2, S2, R2, sl2, ?_⟩
      simp only [whileL] at mm
      cases e1 : evE C.E c r2 S2 with
      | ex c S3 => rw [e1] at mm; exact exP_res mm sl2
      | no => rw [e1] at mm; exact mm
      | ok d S3 =>
        rw [e1] at mm
        cases d <;> first | exact mm.elim | skip
        rename_i bb
        intro I3 M3 H3 le3 R3
        cases bb with
        | false =>
          rw [if_neg Bool.false_ne_true]
          exact mm I3 M3 H3 σ2 le3 R3 (sl2.mono le3)
        | true =>
          rw [if_pos rfl]
          refine ⟨fun σ' H' => ∃ I2 M2 r2 S2, Le I M I2 M2 ∧ Rel X.K B I2 M2 S2 H' ∧ Sl X.K I2 M2 r2 σ' ∧ resS X.K B W I2 M2 (whileL (fun r S => evE C.E c r S) (fun r S => evS C.E b r S) n r2 S2) D, fun σ' H' q => ⟨n, Nat.lt_succ_self _, q⟩, I3, M3, r2, S3, R3, sl2.mono le3, ?_⟩
          simp only at mm
          cases e2 : evS C.E b r2 S3 with
          | nx r4 S4 =>
            rw [e2] at mm
            exact fun I' M' H' σ' le R' sl' => ⟨I', M', r4, S4, (le2.trans le3).trans le, R', sl', resS.mono mm (le3.trans le)⟩
          | ct r4 S4 =>
            rw [e2] at mm
            exact fun I' M' H' σ' le R' sl' => ⟨I', M', r4, S4, (le2.trans le3).trans le, R', sl', resS.mono mm (le3.trans le)⟩
          | bk r4 S4 =>
            rw [e2] at mm
            exact fun I' M' H' σ' le R' sl' => mm I' M' H' σ' (le3.trans le) R' sl'
          | rt d S4 => rw [e2] at mm; exact okP.mono mm le3
          | ex c r4 S4 =>
            rw [e2] at mm
            exact fun I' M' H' σ' le R' sl' => mm I' M' H' σ' (le3.trans le) R' sl'
          | no => rw [e2] at mm; exact mm
  · cases h'
theorem kS {u : T} (h : ∀ C s, chkS C u s = false) : SS u := fun B C X W s c q => absurd ((h C s).symm.trans q) Bool.false_ne_true
theorem kSs {u : T} (h : ∀ C s, chkSs C u s = false) : SSs u := fun B C X W s c q => absurd ((h C s).symm.trans q) Bool.false_ne_true
theorem sndS (t : T) : SS t ∧ SSs t := by
  induction t with
  | asg tg e _ => exact ⟨s_asg tg e, kSs (fun _ _ => rfl)⟩
  | par i j a b _ _ => exact ⟨s_par i j a b, kSs (fun _ _ => rfl)⟩
  | ex e _ => exact ⟨s_ex e, kSs (fun _ _ => rfl)⟩
  | put i k v _ _ => exact ⟨s_put i k v, kSs (fun _ _ => rfl)⟩
  | ret e _ => exact ⟨s_ret e, kSs (fun _ _ => rfl)⟩
  | iff c a b _ ha hb => exact ⟨s_iff c a b ha.2 hb.2, kSs (fun _ _ => rfl)⟩
  | for_ tg it b _ hb => exact ⟨s_for tg it b hb.2, kSs (fun _ _ => rfl)⟩
  | forD tg k i b hb => exact ⟨s_forD tg k i b hb.2, kSs (fun _ _ => rfl)⟩
  | whl c b _ hb => exact ⟨s_whl c b hb.2, kSs (fun _ _ => rfl)⟩
  | rse i => exact ⟨s_rse i, kSs (fun _ _ => rfl)⟩
  | cont => exact ⟨s_cont, kSs (fun _ _ => rfl)⟩
  | brk => exact ⟨s_brk, kSs (fun _ _ => rfl)⟩
  | pass => exact ⟨s_pass, kSs (fun _ _ => rfl)⟩
  | bad => exact ⟨s_bad, ss_bad⟩
  | nil => exact ⟨kS (fun _ _ => rfl), ss_nil⟩
  | cons a b ha hb => exact ⟨kS (fun _ _ => rfl), ss_cons a b ha.1 hb.2⟩
  | _ => exact ⟨kS (fun _ _ => rfl), kSs (fun _ _ => rfl)⟩
end Bp

namespace Bp
open PySem L2
/-! ### defs -/
/-- what the text around a def gives -/
structure Facts (P : Program) (w : World) (K : PySem.W.Frag) (mg : Str → Option Value) (base : Heap) (C : Cg) : Prop where
  blt : ∀ x ∈ blts, mg x = none
  fns : ∀ (i : Nat) x, C.fns[i]? = some x → ∃ f fd ps, mg x = some (.ref f) ∧ PySem.W.keepIn K (.ref f) = true ∧ Binds K fd ps [] ∧ (∀ ds, C.E.F i ds ≠ .no → ds.length = ps.length) ∧ FnOk P w K mg base (L2.CX P w) C.lv f fd ps (spP C.cls K ps.length (C.E.F i))
  cons : ∀ (i : Nat) x, C.cons[i]? = some x → ∃ u v, mg x = some u ∧ RelV v u ∧ ∀ I M, Rp K I M v (C.E.G i)
  exc : ∀ (i : Nat) x, C.exs[i]? = some x → x ≠ "" → ∃ Ca, C.cls i = .ref Ca ∧ mg x = some (.ref Ca) ∧ PySem.W.excIn K Ca [.type "ValueError", .type "Exception", .type "BaseException", .type "object"] "ValueError.__new__" = true ∧ PySem.W.keepIn K (.ref Ca) = true ∧
    PySem.W.subIn K (.ref Ca) (.type "BaseException") = some true ∧ PySem.W.typeIn K (.ref Ca) = some (.type "type")
theorem start_sl {K : PySem.W.Frag} {I : Hp} {N : List Str} {vs : List V} {ds : List D} (ra : RpA K I [] vs ds) : Sl K I [] (ds.map some ++ List.replicate (N.length - ds.length) none) (start N vs) := by
  unfold L2.start
  refine ⟨by simp [ra.length], fun i d hd => ?_⟩
  by_cases hi : i < ds.length
  · rw [List.getElem?_append_left (by simpa using hi), List.getElem?_map] at hd
    cases e : ds[i]? with
    | none => rw [e] at hd; cases hd
    | some d' =>
      rw [e] at hd
      cases hd
      obtain ⟨v, h1, h2⟩ := ra.get e
      exact ⟨v, by rw [List.getElem?_append_left (by rw [List.length_map, ra.length]; exact hi), List.getElem?_map, h1]; rfl, h2⟩
  · rw [List.getElem?_append_right (by simpa using Nat.le_of_not_lt hi), List.getElem?_replicate] at hd
    split at hd <;> cases hd
theorem okFn {P : Program} {w : World} {K : PySem.W.Frag} {mg : Str → Option Value} {base : Heap} {C : Cg} {x qual : Str} {params : Arguments} {body : List Stmt} {kws : List (Str × V)} {f : Addr} {fd : FuncData} {ps : List Str} (t : T)
    (F : FunD K x qual params body C.sc [] kws f fd) (S : FnScope C.N ps C.sc) (hfn : ∀ x, C.fn x = true) (hto : C.told = false) (hc : chkSs C t body = true) (Z : Facts P w K mg base C) :
    FnOk P w K mg base (L2.CX P w) (C.lv + 1) f fd ps (spP C.cls K ps.length (runDef C.E ps.length C.N.length t)) := by
  refine F.ok S (fun vs H Q E h => h.1) ?_
  intro cdv A outer s H vs Q E hr hsp
  let X : Cx := cxOf (L2.CX P w) P w K mg base C.N qual C.sc f cdv A outer s H E
  let W : WN := fun c σ H' => E (C.cls c) none H'
  have cx : Ctx3 C X W := {
    hN := rfl
    nd := S.nd
    sc := rfl
    fn := fun x _ => rfl
    calm := rfl
    room := hr
    blt := Z.blt
    takes := (takes_of (X := X) (E := E) rfl rfl rfl rfl).imp fun cl d σ H' q => by
      obtain ⟨c, rfl, rfl, z⟩ := q
      exact z
    fns := Z.fns
    cons := Z.cons
    own := passes_of (X := X) rfl
    kind := by
      have hk : X.env.scope.kind = .function := S.kind
      unfold Env.blockKind
      rw [hk]
      rfl
    skind := S.kind
    exc := fun i x hx h0 => by
      obtain ⟨Ca, e1, e2, e3, e4, e5, e6⟩ := Z.exc i x hx h0
      exact ⟨Ca, _, _, _, _, e1, PySem.F.excBase_ValueError, e3, e2, e4, raises_own e5 e6⟩
    told := fun z => by rw [hto] at z; cases z }
  obtain ⟨hlen, I, L, ds, hat, hlk, ra, hF⟩ := hsp
  let B : Fm := ⟨H, I, fun _ => False, L, fun _ => False, false⟩
  refine ⟨_, (sndS t).2 B C X W body cx hc, I, [], ds.map some ++ List.replicate (C.N.length - ds.length) none, [], ?_, start_sl ra, ?_⟩
  · exact ⟨hat, hlk, rfl, List.nodup_nil, fun n a c h => by simp at h, fun a o h _ => .inl ⟨fun z => z, h⟩, fun a z => z.elim, fun a h => .inl h, fun n a c h => by simp at h, fun a o h => .inl h, Same.refl _, fun ⟨n, z⟩ => by simp at z, fun z => by cases z⟩
  · have hl : ds.length = ps.length := by rw [← ra.length]; exact hlen
    unfold runDef at hF
    rw [if_pos hl] at hF
    have frame : ∀ {I' M' S' H'}, Rel K B I' M' S' H' → Same H H' := fun R a o h => by
      rcases R.keep a o h (fun z => z) with ⟨_, z⟩ | ⟨z, _⟩
      · exact z
      · exact z.elim
    cases e : evS C.E t (ds.map some ++ List.replicate (C.N.length - ds.length) none) [] with
    | no => rw [e] at hF; exact hF.elim
    | ct r S' => rw [e] at hF; exact hF.elim
    | bk r S' => rw [e] at hF; exact hF.elim
    | nx r S' =>
      rw [e] at hF
      exact fun I' M' H' σ' le R' sl' => hF I' H' .non (frame R') le.i (fun a o h => by
        rcases R'.ext a o h with z | ⟨n, z | z⟩ | z
        · exact .inl z
        · exact .inr (.inl ⟨n, z⟩)
        · exact z.elim
        · exact .inr (.inr z)) R'.sub .non
    | rt d S' =>
      rw [e] at hF
      simp only at hF
      by_cases hd : okN dep d = true
      · rw [if_pos hd] at hF
        exact fun I' M' H' v le R' rp => hF I' H' v (frame R') le.i (fun a o h => by
          rcases R'.ext a o h with z | ⟨n, z | z⟩ | z
          · exact .inl z
          · exact .inr (.inl ⟨n, z⟩)
          · exact z.elim
          · exact .inr (.inr z)) R'.sub (Rp.strip _ _ _ hd rp)
      · rw [if_neg hd] at hF; exact hF.elim
    | ex c r S' =>
      rw [e] at hF
      exact fun I' M' H' σ' le R' sl' => hF H' (frame R')
/-- a promise that says less -/
theorem okLess {P : Program} {w : World} {K : PySem.W.Frag} {mg : Str → Option Value} {base : Heap} {k : Nat} {f : Addr} {fd : FuncData} {ps : List Str} {cls : Nat → Value} {n : Nat} {F G : List D → Bp.P}
    (h : FnOk P w K mg base (L2.CX P w) k f fd ps (spP cls K n F)) (hg : ∀ ds, G ds ≠ .no → F ds = G ds) : FnOk P w K mg base (L2.CX P w) k f fd ps (spP cls K n G) := by
  refine h.imp ?_
  rintro vs H Q E ⟨hl, I, L, ds, h1, h2, h3, h4⟩
  refine ⟨hl, I, L, ds, h1, h2, h3, ?_⟩
  rw [hg ds fun z => by rw [z] at h4; exact h4]
  exact h4
/-- the law's own promise -/
def spLaw (K : PySem.W.Frag) : Sp := fun vs H Q _ => ∃ (a : Addr) (ns : List Int), vs = [.ref a] ∧ SqL K H a (ns.map V.int) ∧ ns.length ≤ 63 ∧ Only H ∧ ∀ H', Q (.bl true) H'
theorem okLaw {P : Program} {w : World} {K : PySem.W.Frag} {mg : Str → Option Value} {base : Heap} {k : Nat} {f : Addr} {fd : FuncData} {x : Str} {cls : Nat → Value} {F : List D → Bp.P}
    (h : FnOk P w K mg base (L2.CX P w) k f fd [x] (spP cls K 1 F)) (hl : ∀ ns : List Int, ns.length ≤ 63 → F [.scr ns] = .ok (.bl true)) : FnOk P w K mg base CX0 k f fd [x] (spLaw K) := by
  refine ⟨fun vs H Q E q => ?_, fun A outer s H args us vs Q E hr he hb hv hs => ?_⟩
  · obtain ⟨a, ns, rfl, _⟩ := q
    rfl
  · obtain ⟨a, ns, rfl, hS, hn, ho, hQ⟩ := hs
    have sp : spP cls K 1 F [.ref a] H Q (fun _ _ _ => False) := by
      refine ⟨rfl, H, fun _ => False, [.scr ns], fun a o h => .inl ⟨fun z => z, h⟩, fun a z => z.elim, .cons (.scr hS) .nil, ?_⟩
      rw [hl ns hn]
      intro I' H' v _ _ _ _ rp
      cases rp
      exact hQ H'
    refine codeAny_mono (h.run A outer s H args us [.ref a] Q (fun _ _ _ => False) hr he hb hv sp) fun r s' q => ?_
    cases r with
    | ok fl => cases fl <;> exact q
    | error e =>
      obtain ⟨_, _, _, _, _, _, _, _, _, _, _, _, z⟩ := (show L2.CX P w outer H s (fun _ _ _ => False) e s' from q)
      exact z.elim
end Bp

namespace Bp
open PySem L2
/-! ### all defs of a text -/
theorem runDef_len {E : Env'} {n m : Nat} {t : T} : ∀ ds, runDef E n m t ds ≠ .no → ds.length = n := fun ds h => by
  unfold runDef at h
  split at h
  · assumption
  · exact absurd rfl h
/-- the refusals, by number -/
def exAll : List Str := ["NoPlan", "NoTells", "NoMode", "NoPress", "NoWants", "NoBack", "NoText", "NoDeed", "NoNumber", "NoKeys"]
/-- those of a text -/
def exOf (here : List Str) : List Str := exAll.map fun x => if here.contains x then x else ""
def clsOf (K : PySem.W.Frag) (i : Nat) : Value := .ref (He.ga K (exAll.getD i ""))
section
variable (P : Program) (w : World) (K : PySem.W.Frag) (mg : Str → Option Value) (base : Heap)
def Has (lv : Nat) (x : Str) (F : List D → Bp.P) : Prop := ∃ f fd ps, mg x = some (.ref f) ∧ PySem.W.keepIn K (.ref f) = true ∧ Binds K fd ps [] ∧ (∀ ds, F ds ≠ .no → ds.length = ps.length) ∧ FnOk P w K mg base (L2.CX P w) lv f fd ps (spP (clsOf K) K ps.length F)
def HasAll (lv : Nat) (F : Nat → List D → Bp.P) : Nat → List Str → Prop
  | _, [] => True
  | i, x :: xs => Has P w K mg base lv x (F i) ∧ HasAll lv F (i + 1) xs
def Con (x : Str) (d : D) : Prop := ∃ u v, mg x = some u ∧ RelV v u ∧ ∀ I M, Rp K I M v d
def ConAll (G : Nat → D) : Nat → List Str → Prop
  | _, [] => True
  | i, x :: xs => Con K mg x (G i) ∧ ConAll G (i + 1) xs
end
section
variable {P : Program} {w : World} {K : PySem.W.Frag} {mg : Str → Option Value} {base : Heap}
theorem Has.up {j k : Nat} {x : Str} {F : List D → Bp.P} (h : Has P w K mg base j x F) (hk : j ≤ k) : Has P w K mg base k x F := by
  obtain ⟨f, fd, ps, a, b, c, d, e⟩ := h
  exact ⟨f, fd, ps, a, b, c, d, e.mono hk⟩
theorem HasAll.get {lv : Nat} {F : Nat → List D → Bp.P} : ∀ {xs : List Str} {j : Nat}, HasAll P w K mg base lv F j xs → ∀ (i : Nat) x, xs[i]? = some x → Has P w K mg base lv x (F (j + i))
  | [], _, _, i, x, h => by simp at h
  | y :: xs, j, ⟨h1, h2⟩, 0, x, h => by
    simp at h; subst h; exact h1
  | y :: xs, j, ⟨h1, h2⟩, i + 1, x, h => by
    simp only [List.getElem?_cons_succ] at h
    have := HasAll.get h2 i x h
    rw [show j + (i + 1) = j + 1 + i by omega]
    exact this
theorem ConAll.get {G : Nat → D} : ∀ {xs : List Str} {j : Nat}, ConAll K mg G j xs → ∀ (i : Nat) x, xs[i]? = some x → Con K mg x (G (j + i))
  | [], _, _, i, x, h => by simp at h
  | y :: xs, j, ⟨h1, h2⟩, 0, x, h => by
    simp at h; subst h; exact h1
  | y :: xs, j, ⟨h1, h2⟩, i + 1, x, h => by
    simp only [List.getElem?_cons_succ] at h
    have := ConAll.get h2 i x h
    rw [show j + (i + 1) = j + 1 + i by omega]
    exact this
/-- what all defs need of the text -/
structure Base (K : PySem.W.Frag) (mg : Str → Option Value) (here : List Str) : Prop where
  blt : ∀ x ∈ blts, mg x = none
  exc : ∀ x ∈ here, mg x = some (.ref (He.ga K x)) ∧ PySem.W.excIn K (He.ga K x) He.veBase "ValueError.__new__" = true ∧ PySem.W.keepIn K (.ref (He.ga K x)) = true ∧ PySem.W.subIn K (.ref (He.ga K x)) (.type "BaseException") = some true ∧ PySem.W.typeIn K (.ref (He.ga K x)) = some (.type "type")
theorem mkOk {here : List Str} (Z : Base K mg here) {x : Str} {params : Arguments} {body : List Stmt} {sc : Scope} {f : Addr} {fd : FuncData} (t : T) (N ps fns cons : List Str) (E : Env') (lv : Nat)
    (F : FunD K x x params body sc [] [] f fd) (S : FnScope N ps sc) (hc : chkSs ⟨N, sc, fun _ => true, lv, fns, exOf here, cons, clsOf K, E, false⟩ t body = true)
    (hf : HasAll P w K mg base lv E.F 0 fns) (hk : ConAll K mg E.G 0 cons) : FnOk P w K mg base (L2.CX P w) (lv + 1) f fd ps (spP (clsOf K) K ps.length (runDef E ps.length N.length t)) := by
  refine okFn (C := ⟨N, sc, fun _ => true, lv, fns, exOf here, cons, clsOf K, E, false⟩) t F S (fun _ => rfl) rfl hc ⟨Z.blt, fun i y hy => ?_, fun i y hy => ?_, fun i y hy h0 => ?_⟩
  · have := hf.get i y hy
    rw [Nat.zero_add] at this
    exact this
  · have := hk.get i y hy
    rw [Nat.zero_add] at this
    exact this
  · have hy : (exOf here)[i]? = some y := hy
    unfold exOf at hy
    rw [List.getElem?_map] at hy
    cases e : exAll[i]? with
    | none => rw [e] at hy; cases hy
    | some z =>
      rw [e] at hy
      simp only [Option.map_some, Option.some.injEq] at hy
      by_cases hz : here.contains z = true
      · rw [if_pos hz] at hy
        subst hy
        obtain ⟨e1, e2, e3, e4, e5⟩ := Z.exc z (by simpa using hz)
        refine ⟨He.ga K z, ?_, e1, e2, e3, e4, e5⟩
        show clsOf K i = _
        unfold clsOf
        rw [List.getD_eq_getElem?_getD, e]
        rfl
      · rw [if_neg hz] at hy
        exact absurd hy.symm h0
theorem mkHas {here : List Str} (Z : Base K mg here) {x : Str} {params : Arguments} {body : List Stmt} {sc : Scope} {f : Addr} {fd : FuncData} (t : T) (N ps fns cons : List Str) (E : Env') (lv : Nat)
    (F : FunD K x x params body sc [] [] f fd) (g : mg x = some (.ref f)) (b : Binds K fd ps []) (S : FnScope N ps sc) (hc : chkSs ⟨N, sc, fun _ => true, lv, fns, exOf here, cons, clsOf K, E, false⟩ t body = true)
    (hf : HasAll P w K mg base lv E.F 0 fns) (hk : ConAll K mg E.G 0 cons) : Has P w K mg base (lv + 1) x (runDef E ps.length N.length t) := ⟨f, fd, ps, g, F.kp, b, runDef_len, mkOk Z t N ps fns cons E lv F S hc hf hk⟩
theorem conI {x : Str} {i : Int} (h : ∃ t, mg x = some (.int i t)) : Con K mg x (.int i) := by
  obtain ⟨t, h⟩ := h
  exact ⟨_, .int i, h, ⟨t, rfl⟩, fun I M => .int i⟩
theorem conS {x : Str} {z : Str} (hz : sOk z = true) (h : ∃ t, mg x = some (.str z t)) : Con K mg x (.str z) := by
  obtain ⟨t, h⟩ := h
  exact ⟨_, .str z, h, ⟨t, rfl⟩, fun I M => .str hz⟩
/-- the facts asked of the head -/
def conFa : Str × D → List He.Fa
  | (x, .int i) => [.int x i]
  | (x, .str z) => [.str x z]
  | _ => []
def faOf (names here : List Str) (cs : List (Str × D)) : List He.Fa := names.map He.Fa.glo ++ (blts.map He.Fa.free ++ (here.map He.Fa.glo ++ (here.map He.Fa.exc ++ cs.flatMap conFa)))
theorem fact_mem {fa : List He.Fa} {fn : List He.DefD} (c : He.SaysD fa fn K) {f : He.Fa} (h : f ∈ fa) : f.ok K = true := by
  obtain ⟨i, hi, e⟩ := List.mem_iff_getElem.mp h
  exact c.fact i (by rw [List.getElem?_eq_getElem hi, e])
section
variable {names here : List Str} {cs : List (Str × D)} {fn : List He.DefD} {h : Heap}
theorem glo_of (X : K.In h) (G : h.Ns mainGlobals mg) (c : He.SaysD (faOf names here cs) fn K) {x : Str} (hx : names.contains x = true) : mg x = some (.ref (He.ga K x)) :=
  He.glo_ok X G (fact_mem c (List.mem_append_left _ (List.mem_map_of_mem (by simpa using hx))))
theorem base_of (X : K.In h) (G : h.Ns mainGlobals mg) (c : He.SaysD (faOf names here cs) fn K) : Base K mg here where
  blt := fun x hx => He.free_ok X G (fact_mem c (List.mem_append_right _ (List.mem_append_left _ (List.mem_map_of_mem hx))))
  exc := fun x hx => ⟨He.glo_ok X G (fact_mem c (List.mem_append_right _ (List.mem_append_right _ (List.mem_append_left _ (List.mem_map_of_mem hx))))), He.exc_ok (fact_mem c (List.mem_append_right _ (List.mem_append_right _ (List.mem_append_right _ (List.mem_append_left _ (List.mem_map_of_mem hx))))))⟩
theorem con_mem (c : He.SaysD (faOf names here cs) fn K) {p : Str × D} (hp : p ∈ cs) {f : He.Fa} (hf : f ∈ conFa p) : f.ok K = true :=
  fact_mem c (List.mem_append_right _ (List.mem_append_right _ (List.mem_append_right _ (List.mem_append_right _ (List.mem_flatMap.mpr ⟨p, hp, hf⟩)))))
theorem conI_of (X : K.In h) (G : h.Ns mainGlobals mg) (c : He.SaysD (faOf names here cs) fn K) {x : Str} {i : Int} (hp : (x, D.int i) ∈ cs) : Con K mg x (.int i) := conI (He.int_ok X G (con_mem c hp (f := .int x i) (by simp [conFa])))
theorem conS_of (X : K.In h) (G : h.Ns mainGlobals mg) (c : He.SaysD (faOf names here cs) fn K) {x z : Str} (hz : sOk z = true) (hp : (x, D.str z) ∈ cs) : Con K mg x (.str z) := conS hz (He.str_ok X G (con_mem c hp (f := .str x z) (by simp [conFa])))
end
end
def mkE (l : List (List D → P)) (g : List D) : Env' := ⟨fun i => l.getD i (fun _ => .no), fun i => g.getD i .non⟩
end Bp

namespace Bp
open PySem L2 PyProof.Rows
/-! ### the def that names a refusal -/
/-- isinstance(e, c) wherever the exception at a is pinned -/
theorem call_isP {Y : Cx} {a D : Addr} {oe : Obj} (hp : (a, oe) ∈ Y.pn) (C : ExcC Y.K D) (hz : Zc (.ref D) none oe) (hf : ∃ vs, oe.data = .fields vs) : CallR Y (.builtin "isinstance") (rIsE Y.K D a) := by
  intro pins s σ H xs us Q I r h
  obtain ⟨c, cv, b, rfl, hcv, e, q⟩ := h
  obtain ⟨u1, u2, rfl, r1, r2⟩ := vals2 r
  cases r1
  have ec := hcv _ r2
  subst ec
  obtain ⟨hget, _⟩ := I.pin (a, oe) (List.mem_append.mpr (.inl hp))
  obtain ⟨vs, hv⟩ := hf
  have J : PySem.W.InstAt s.heap a oe D none := by
    obtain ⟨oc, od, oda, osl⟩ := oe
    obtain ⟨g1, g2⟩ := hz
    dsimp only at g1 g2 hv
    subst g1 g2 hv
    exact ⟨hget, rfl, rfl, trivial⟩
  exact PySem.W.kia_one (PySem.W.handS_kitx_exc C.hg C.hk C.hs C.hd C.ha C.hn C.ht C.hm) I.kIn J e (fun z => nomatch z) fun tk => ⟨.bl b, H, I.kept (t' := tk) fun _ _ z => z, rfl, q⟩
/-- xs.count(True) of bools -/
def rCntB (K : PySem.W.Frag) : V → List V → Hp → VK → Prop := fun x xs H Q => ∃ (p : Addr) (bs : List Bool), x = .ref p ∧ xs = [.bl true] ∧ SqL K H p (bs.map V.bl) ∧ Q (.int (bs.count true : Nat)) H
theorem bools_vals : ∀ {bs : List Bool} {us : List Value}, Vals (bs.map V.bl) us → us = bs.map Value.bool
  | [], _, r => by
    rw [List.map_nil] at r
    cases r; rfl
  | b :: bs, _, r => by
    rw [List.map_cons] at r
    cases r with
    | cons h t =>
      cases h
      rw [bools_vals t]; rfl
theorem countP_bools : ∀ bs : List Bool, (bs.map Value.bool).countP (isBoolOf true) = bs.count true
  | [] => rfl
  | b :: bs => by
    rw [List.map_cons, List.countP_cons, List.count_cons, countP_bools bs]
    cases b <;> rfl
theorem mt_countB {X : Cx} : MtR X "list.count" (rCntB X.K) := by
  intro pins s σ H x xs v us Q I rx rxs h
  obtain ⟨p, bs, rfl, rfl, hs, q⟩ := h
  cases rx
  obtain ⟨u, rfl, ru⟩ := vals1 rxs
  cases ru
  obtain ⟨its, rv, ⟨⟨cls, dd, data, sl⟩, n, ho, hc, hdn, hd⟩, hlen⟩ := I.list hs
  simp only at hc hd
  subst hc hd
  have hi := bools_vals rv
  subst hi
  refine call_meets PySem.F.slot_list_count ⟨_, ho, rfl⟩ PySem.F.entry_list_count (PySem.F.args_list_count_2 _ _)
    (SeqAt.list_countAt p (bs.map Value.bool).toArray n dd sl (.bool true) (isBoolOf true)) ⟨ho, fun y hy => ?_, ?_⟩
  · have hy' : y ∈ bs.map Value.bool := by simpa using hy
    obtain ⟨b, _, rfl⟩ := List.mem_map.mp hy'
    exact SeqAt.EqAt.bool_bool b true
  · refine ⟨.int (bs.count true : Nat), H, I.tok _, ⟨s.toks, ?_⟩, q⟩
    show Value.int (((bs.map Value.bool).toArray.toList.countP (isBoolOf true) : Nat) : Int) s.toks = _
    rw [show (bs.map Value.bool).toArray.toList = bs.map Value.bool from rfl, countP_bools]
/-- what the def asks of the place where it runs -/
def nmN : List Str := ["kept", "kinds", "some"]
def nmG : List Str := ["isinstance", "ValueError"]
structure NmOk (Y : Cx) (a D : Addr) (nmC : List Str) (kb : Str → Bool) : Prop where
  hN : Y.N = nmN
  loc : ∀ x ∈ Y.N, Y.env.scope.names.lookup x = some .local
  gl : ∀ x ∈ nmG ++ nmC, Gl Y x
  isi : Y.mg "isinstance" = none
  ve : Y.mg "ValueError" = none
  cls : ∀ x ∈ nmC, Y.mg x = some (.ref (He.ga Y.K x)) ∧ PySem.W.kitOne Y.K (.ref D) (.ref (He.ga Y.K x)) = some (kb x)
  vk : PySem.W.kitOne Y.K (.ref D) (.type "ValueError") = some true
  isc : CallR Y (.builtin "isinstance") (rIsE Y.K D a)
  dbg : ∀ x ∈ nmC, (x == ("__debug__" : Str)) = false
section
variable {Y : Cx} {a D : Addr} {nmC : List Str} {kb : Str → Bool}
theorem NmOk.var (N : NmOk Y a D nmC kb) {i : Nat} {x : Str} {pos : Pos} (h : nmN[i]? = some x) (hd : (x == ("__debug__" : Str)) = false) (hc : (x == ("__classdict__" : Str)) = false) : PE Y (.Name x pos) (tVar i) :=
  pe_var (by rw [N.hN]; exact h) (.inl (N.loc x (by rw [N.hN]; exact List.mem_of_getElem? h))) hd hc
def isE (x : Str) : Expr → Bool
  | .Call (.Name f _) [.Name k _, .Name y _] [] _ => decide (f = ("isinstance" : Str)) && decide (k = ("kept" : Str)) && decide (y = x)
  | _ => false
theorem pe_isE (N : NmOk Y a D nmC kb) {x : Str} {e : Expr} (h : isE x e = true) (hx : x ∈ nmC) : PE Y e (fun σ H Q => σ[0]? = some (some (.ref a)) ∧ Q (.bl (kb x)) H) := by
  unfold isE at h
  split at h
  · simp only [Bool.and_eq_true, decide_eq_true_eq] at h
    obtain ⟨⟨rfl, rfl⟩, rfl⟩ := h
    obtain ⟨h1, h2⟩ := N.cls _ hx
    refine PE.imp (pe_callB N.isc (N.gl _ (List.mem_append_left _ List.mem_cons_self)) N.isi boot_isinstance (pa_cons (N.var (i := 0) rfl (by decide) (by decide)) (pa_cons (pe_glob (v := .ref (He.ga Y.K _)) (N.gl _ (List.mem_append_right _ hx)) h1 rfl (N.dbg _ hx)) pa_nil rfl) rfl)) ?_
    rintro σ H Q ⟨q1, q2⟩
    exact ⟨_, q1, _, _, kb _, rfl, fun u r => r, h2, q2⟩
  · cases h
theorem pe_isV (N : NmOk Y a D nmC kb) {e : Expr} (h : isE "ValueError" e = true) : PE Y e (fun σ H Q => σ[0]? = some (some (.ref a)) ∧ Q (.bl true) H) := by
  unfold isE at h
  split at h
  · simp only [Bool.and_eq_true, decide_eq_true_eq] at h
    obtain ⟨⟨rfl, rfl⟩, rfl⟩ := h
    refine PE.imp (pe_callB N.isc (N.gl _ (List.mem_append_left _ List.mem_cons_self)) N.isi boot_isinstance (pa_cons (N.var (i := 0) rfl (by decide) (by decide)) (pa_cons (pe_bltn (v := .ty "ValueError") (N.gl _ (List.mem_append_left _ (List.mem_cons_of_mem _ List.mem_cons_self))) N.ve (by decide +kernel) rfl) pa_nil rfl) rfl)) ?_
    rintro σ H Q ⟨q1, q2⟩
    exact ⟨_, q1, _, _, true, rfl, fun u r => r, N.vk, q2⟩
  · cases h
def isEs : List Str → List Expr → Bool
  | [], [] => true
  | x :: xs, e :: es => isE x e && isEs xs es
  | _, _ => false
theorem isE_ns {x : Str} {e : Expr} (h : isE x e = true) : ns e = true := by
  unfold isE at h
  split at h
  · rfl
  · cases h
theorem pa_isEs (N : NmOk Y a D nmC kb) : ∀ {xs : List Str} {es : List Expr}, isEs xs es = true → (∀ x ∈ xs, x ∈ nmC) → PA Y es (fun σ H Q => σ[0]? = some (some (.ref a)) ∧ Q (xs.map fun x => .bl (kb x)) H)
  | [], [], _, _ => PA.imp pa_nil fun σ H Q q => q.2
  | x :: xs, e :: es, h, hx => by
    simp only [isEs, Bool.and_eq_true] at h
    exact PA.imp (pa_cons (pe_isE N h.1 (hx x List.mem_cons_self)) (pa_isEs N h.2 fun y hy => hx y (List.mem_cons_of_mem _ hy)) (ns_star (isE_ns h.1) _ _)) fun σ H Q q => ⟨q.1, q.1, q.2⟩
  | [], _ :: _, h, _ => by cases h
  | _ :: _, [], h, _ => by cases h
def strEs : List Str → List Expr → Bool
  | [], [] => true
  | x :: xs, .Constant (.str y) _ _ :: es => decide (y = x) && strEs xs es
  | _, _ => false
theorem pa_strEs : ∀ {xs : List Str} {es : List Expr}, strEs xs es = true → PA Y es (fun _ H Q => Q (xs.map V.str) H)
  | [], [], _ => pa_nil
  | x :: xs, .Constant (.str y) _ _ :: es, h => by
    simp only [strEs, Bool.and_eq_true, decide_eq_true_eq] at h
    obtain ⟨rfl, h⟩ := h
    exact PA.imp (pa_cons pe_str (pa_strEs h) rfl) fun σ H Q q => q
def nm1 : List Str := ["NoBack", "NoDeed", "NoKeys", "NoMode"]
def nm2 : List Str := ["NoNumber", "NoPlan", "NoPress"]
def nm3 : List Str := ["NoTells", "NoText", "NoWants"]
def nmW : List Str := ["no back", "no deed", "no keys", "no mode", "no number", "no plan", "no press", "no tells", "no text"]
def nameB : List Stmt → Bool
  | [.Assign [.Name k1 _] (.List es1 _) _, .Assign [.Name k2 _] (.BinOp (.Name k3 _) .Add (.List es2 _) _) _, .Assign [.Name k4 _] (.BinOp (.Name k5 _) .Add (.List es3 _) _) _,
     .If (.BoolOp .Or [.Compare (.Call (.Attribute (.Name k6 _) m1 ap1) [.Constant (.bool b1) _ _] [] cp1) [.NotEq] [.Constant (.int i1) _ _] _, .UnaryOp .Not eV _] _) [.Return (some (.Constant (.str _) _ _)) _] [] _,
     .Assign [.Name s1 _] (.List es4 _) _, .Return (some (.Subscript (.BinOp (.Name s2 _) .Add (.List es5 _) _) (.Call (.Attribute (.Name k7 _) m2 ap2) [.Constant (.bool b2) _ _] [] cp2) _)) _] =>
    decide (k1 = ("kinds" : Str)) && decide (k2 = ("kinds" : Str)) && decide (k3 = ("kinds" : Str)) && decide (k4 = ("kinds" : Str)) && decide (k5 = ("kinds" : Str)) && decide (k6 = ("kinds" : Str)) && decide (k7 = ("kinds" : Str)) &&
    decide (s1 = ("some" : Str)) && decide (s2 = ("some" : Str)) && decide (m1 = ("count" : Str)) && decide (m2 = ("index" : Str)) && b1 && b2 && decide (i1 = 1) && (ap1.endLine == cp1.line) && (ap2.endLine == cp2.line) &&
    isEs nm1 es1 && isEs nm2 es2 && isEs nm3 es3 && isE "ValueError" eV && strEs nmW es4 && strEs ["no wants"] es5
  | _ => false
end
end Bp

namespace Bp
open PySem L2 PyProof.Rows
section
variable {Y : Cx} {a D : Addr} {kb : Str → Bool}
theorem NmOk.set (N : NmOk Y a D (nm1 ++ (nm2 ++ nm3)) kb) {i : Nat} {x : Str} {e : Expr} {te : TE} {pos pos' : Pos} (h : nmN[i]? = some x) (he : PE Y e te) (hs : swapsWith e (some (.Name x pos')) pos.line Y.env = pure false) : PS Y (.Assign [.Name x pos'] e pos) (tAsg te (gName i)) := by
  have hl := N.loc x (by rw [N.hN]; exact List.mem_of_getElem? h)
  exact ps_set (by rw [N.hN]; decide) (by rw [N.hN]; exact h) (.inl hl) he hs (.inr hl)
theorem isE_plain {x : Str} {e : Expr} (h : isE x e = true) : plainT e = true := by
  unfold isE at h
  split at h
  · rfl
  · cases h
theorem name_body (N : NmOk Y a D (nm1 ++ (nm2 ++ nm3)) kb) {body : List Stmt} (h : nameB body = true) {c : Nat} (hc : c < 10) (hkb : kb = fun x => decide (x = exAll.getD c "")) :
    ∃ t, PSs Y body t ∧ ∀ (H : Hp) (Q : VK) (nx : L2.St → Hp → Prop), (∀ H2, Same H H2 → Q (.str (nmOf c)) H2) → t { nx := nx, rt := Q } [some (.ref a), none, none] H := by
  unfold nameB at h
  split at h
  · rename_i k1 pk1 es1 pl1 pa1 k2 pk2 k3 pk3 es2 pl2 pb2 pa2 k4 pk4 k5 pk5 es3 pl3 pb3 pa3 k6 pk6 m1 ap1 b1 j1 pc1 cp1 i1 j2 pc2 pcm eV pnot por w1 jw pw pr pif s1 ps1 es4 pl4 pa4 s2 ps2 es5 pl5 pb5 k7 pk7 m2 ap2 b2 j3 pc3 cp2 psb prr
    simp only [Bool.and_eq_true, decide_eq_true_eq] at h
    obtain ⟨⟨⟨⟨⟨⟨⟨⟨⟨⟨⟨⟨⟨⟨⟨⟨⟨⟨⟨⟨⟨rfl, rfl⟩, rfl⟩, rfl⟩, rfl⟩, rfl⟩, rfl⟩, rfl⟩, rfl⟩, rfl⟩, rfl⟩, rfl⟩, rfl⟩, rfl⟩, l1⟩, l2⟩, e1⟩, e2⟩, e3⟩, eV'⟩, e4⟩, e5⟩ := h
    have vk : ∀ {pos : Pos}, PE Y (.Name "kinds" pos) (tVar 1) := N.var (i := 1) rfl (by decide) (by decide)
    have vs : ∀ {pos : Pos}, PE Y (.Name "some" pos) (tVar 2) := N.var (i := 2) rfl (by decide) (by decide)
    have pp1 := pa_isEs N e1 fun x hx => List.mem_append_left _ hx
    have pp2 := pa_isEs N e2 fun x hx => List.mem_append_right _ (List.mem_append_left _ hx)
    have pp3 := pa_isEs N e3 fun x hx => List.mem_append_right _ (List.mem_append_right _ hx)
    refine ⟨_, pss_cons (N.set (i := 1) rfl (pe_lst pp1) rfl) (pss_cons (N.set (i := 1) rfl (pe_op op_cat vk (pe_lst pp2)) rfl) (pss_cons (N.set (i := 1) rfl (pe_op op_cat vk (pe_lst pp3)) rfl)
      (pss_cons (ps_if (PW.pt (pw_or (pt_cmpR op_ne (pe_bm PySem.F.plainAttrs_list PySem.F.slot_list_count PySem.F.type_list_count mt_countB vk (pa_cons pe_bl pa_nil rfl) rfl rfl l1 rfl rfl) pe_int (nobehind _ (by decide) (by decide))) (pw_or1 (pt_not (pt_val (pe_isV N eV') ?_))))) (pss_one (ps_ret pe_str)) pss_nil)
      (pss_cons (N.set (i := 2) rfl (pe_lst (pa_strEs e4)) rfl) (pss_one (ps_ret (pe_ix ix_seq (pe_op op_cat vs (pe_lst (pa_strEs e5))) (pe_bm PySem.F.plainAttrs_list PySem.F.slot_list_index PySem.F.type_list_index mt_index vk (pa_cons pe_bl pa_nil rfl) rfl rfl l2 rfl rfl) ?_))))))), ?_⟩
    · exact plainT_eq (isE_plain eV') Y.env
    · exact nslice_plain rfl
    · intro H Q nx hq
      have z4 : (nm1.map fun x => V.bl (kb x)).length ≤ sizeLine := by rw [List.length_map]; decide
      have z3 : (nm2.map fun x => V.bl (kb x)).length ≤ sizeLine := by rw [List.length_map]; decide
      have z3' : (nm3.map fun x => V.bl (kb x)).length ≤ sizeLine := by rw [List.length_map]; decide
      have hb : (nm1.map fun x => V.bl (kb x)) ++ (nm2.map fun x => V.bl (kb x)) ++ (nm3.map fun x => V.bl (kb x)) = ((nm1 ++ (nm2 ++ nm3)).map kb).map V.bl := by
        simp only [List.map_append, List.map_map, List.append_assoc]; rfl
      refine ⟨rfl, z4, fun p1 n1 => ?_⟩
      refine ⟨.ref p1, rfl, rfl, z3, fun q1 m1 => ⟨p1, q1, (nm1.map fun x => V.bl (kb x)), (nm2.map fun x => V.bl (kb x)), rfl, rfl, ?_, upd_same, by rw [List.length_map, List.length_map]; decide, fun p2 n2 => ?_⟩⟩
      · rw [upd_ne (ne_of_none upd_same m1)]; exact upd_same
      refine ⟨.ref p2, rfl, rfl, z3', fun q2 m2 => ⟨p2, q2, (nm1.map fun x => V.bl (kb x)) ++ (nm2.map fun x => V.bl (kb x)), (nm3.map fun x => V.bl (kb x)), rfl, rfl, ?_, upd_same, by rw [List.length_append, List.length_map, List.length_map, List.length_map]; decide, fun p3 n3 => ?_⟩⟩
      · rw [upd_ne (ne_of_none upd_same m2)]; exact upd_same
      rw [hb]
      have sm : ∀ {H1 : Hp} {p : Addr} {o : HO}, H1 p = none → Same H1 (upd H1 p o) := fun {H1 p o} n b u e => by rw [upd_ne (ne_of_none e n)]; exact e
      have s5 : Same H (upd (upd (upd (upd (upd H p1 (.lst (nm1.map fun x => V.bl (kb x)))) q1 (.lst (nm2.map fun x => V.bl (kb x)))) p2 (.lst ((nm1.map fun x => V.bl (kb x)) ++ (nm2.map fun x => V.bl (kb x))))) q2 (.lst (nm3.map fun x => V.bl (kb x)))) p3 (.lst (((nm1 ++ (nm2 ++ nm3)).map kb).map V.bl))) :=
        ((((sm n1).trans (sm m1)).trans (sm n2)).trans (sm m2)).trans (sm n3)
      revert s5
      generalize hH : upd (upd (upd (upd (upd H p1 (.lst (nm1.map fun x => V.bl (kb x)))) q1 (.lst (nm2.map fun x => V.bl (kb x)))) p2 (.lst ((nm1.map fun x => V.bl (kb x)) ++ (nm2.map fun x => V.bl (kb x))))) q2 (.lst (nm3.map fun x => V.bl (kb x)))) p3 (.lst (((nm1 ++ (nm2 ++ nm3)).map kb).map V.bl)) = H5
      intro s5
      have h5 : H5 p3 = some (.lst (((nm1 ++ (nm2 ++ nm3)).map kb).map V.bl)) := by rw [← hH]; exact upd_same
      have cnt : (((nm1 ++ (nm2 ++ nm3)).map kb).count true) = 1 := by
        subst hkb
        match c, hc with
        | 0, _ => decide +kernel
        | 1, _ => decide +kernel
        | 2, _ => decide +kernel
        | 3, _ => decide +kernel
        | 4, _ => decide +kernel
        | 5, _ => decide +kernel
        | 6, _ => decide +kernel
        | 7, _ => decide +kernel
        | 8, _ => decide +kernel
        | 9, _ => decide +kernel
      refine ⟨.ref p3, rfl, .inl ⟨rfl, _, SqL.of h5⟩, ⟨p3, _, rfl, rfl, SqL.of h5, ?_⟩⟩
      rw [cnt]
      refine ⟨rfl, false, rfl, ?_⟩
      show if (false : Bool) = true then _ else _
      rw [if_neg Bool.false_ne_true]
      refine ⟨rfl, true, rfl, ?_⟩
      show if (!true : Bool) = true then _ else _
      rw [if_neg (by decide)]
      refine ⟨by rw [List.length_map]; decide, fun p4 n4 => ?_⟩
      have n43 : p3 ≠ p4 := ne_of_none h5 n4
      refine ⟨.ref p4, rfl, by decide, fun q4 m4 => ⟨p4, q4, nmW.map V.str, [V.str "no wants"], rfl, rfl, by rw [upd_ne (ne_of_none upd_same m4)]; exact upd_same, upd_same, by rw [List.length_map]; decide, fun p5 n5 => ?_⟩⟩
      have h6 : upd H5 p4 (.lst (nmW.map V.str)) p3 = some (.lst (((nm1 ++ (nm2 ++ nm3)).map kb).map V.bl)) := by rw [upd_ne n43]; exact h5
      have h7 : upd (upd H5 p4 (.lst (nmW.map V.str))) q4 (.lst (([("no wants" : Str)]).map V.str)) p3 = some (.lst (((nm1 ++ (nm2 ++ nm3)).map kb).map V.bl)) := by rw [upd_ne (ne_of_none h6 m4)]; exact h6
      have h8 : upd (upd (upd H5 p4 (.lst (nmW.map V.str))) q4 (.lst (([("no wants" : Str)]).map V.str))) p5 (.lst (nmW.map V.str ++ [V.str "no wants"])) p3 = some (.lst (((nm1 ++ (nm2 ++ nm3)).map kb).map V.bl)) := by rw [upd_ne (ne_of_none h7 n5)]; exact h7
      have s8 : Same H (upd (upd (upd H5 p4 (.lst (nmW.map V.str))) q4 (.lst (([("no wants" : Str)]).map V.str))) p5 (.lst (nmW.map V.str ++ [V.str "no wants"]))) := ((s5.trans (sm n4)).trans (sm m4)).trans (sm n5)
      have h9 : upd (upd (upd H5 p4 (.lst (nmW.map V.str))) q4 (.lst (([("no wants" : Str)]).map V.str))) p5 (.lst (nmW.map V.str ++ [V.str "no wants"])) p5 = some (.lst (nmW.map V.str ++ [V.str "no wants"])) := upd_same
      have g := hq _ s8
      revert h8 h9 g
      generalize upd (upd (upd H5 p4 (.lst (nmW.map V.str))) q4 (.lst (([("no wants" : Str)]).map V.str))) p5 (.lst (nmW.map V.str ++ [V.str "no wants"])) = H9
      intro h8 h9 g
      refine ⟨.ref p3, rfl, .inl ⟨rfl, _, SqL.of h8⟩, ?_⟩
      subst hkb
      have fin : ∀ j : Nat, (((nm1 ++ (nm2 ++ nm3)).map fun x => decide (x = exAll.getD c "")).map V.bl).all flatV = true → (((nm1 ++ (nm2 ++ nm3)).map fun x => decide (x = exAll.getD c "")).map V.bl)[j]? = some (.bl true) → (∀ m < j, (((nm1 ++ (nm2 ++ nm3)).map fun x => decide (x = exAll.getD c "")).map V.bl)[m]? = some (.bl false)) → (nmW.map V.str ++ [V.str "no wants"])[j]? = some (.str (nmOf c)) → j < 10 →
          rIndex Y.K (.ref p3) [.bl true] H9 fun y H2 => rIx Y.K (.ref p5) y H2 Q := fun j f1 f2 f3 f4 f5 => by
        refine ⟨p3, _, .bl true, j, .bl true, rfl, rfl, SqL.of h8, rfl, f1, f2, rfl, fun m z' hm hz => ?_, ?_⟩
        · rw [f3 m hm] at hz; cases hz; rfl
        · refine .inl ⟨p5, _, j, .str (nmOf c), rfl, rfl, SqL.of h9, ?_, g⟩
          unfold atI ixN
          rw [if_pos (by omega), if_pos (by simp [nmW]; omega)]
          exact f4
      match c, hc with
      | 0, _ => exact fin 5 (by decide +kernel) (by decide +kernel) (by decide +kernel) rfl (by decide)
      | 1, _ => exact fin 7 (by decide +kernel) (by decide +kernel) (by decide +kernel) rfl (by decide)
      | 2, _ => exact fin 3 (by decide +kernel) (by decide +kernel) (by decide +kernel) rfl (by decide)
      | 3, _ => exact fin 6 (by decide +kernel) (by decide +kernel) (by decide +kernel) rfl (by decide)
      | 4, _ => exact fin 9 (by decide +kernel) (by decide +kernel) (by decide +kernel) rfl (by decide)
      | 5, _ => exact fin 0 (by decide +kernel) (by decide +kernel) (by decide +kernel) rfl (by decide)
      | 6, _ => exact fin 8 (by decide +kernel) (by decide +kernel) (by decide +kernel) rfl (by decide)
      | 7, _ => exact fin 1 (by decide +kernel) (by decide +kernel) (by decide +kernel) rfl (by decide)
      | 8, _ => exact fin 4 (by decide +kernel) (by decide +kernel) (by decide +kernel) rfl (by decide)
      | 9, _ => exact fin 2 (by decide +kernel) (by decide +kernel) (by decide +kernel) rfl (by decide)
  · cases h
end
end Bp

namespace Bp
open PySem L2 PyProof.Rows
def nmA : List Str := nm1 ++ (nm2 ++ nm3)
structure NmFacts (K : PySem.W.Frag) (mg : Str → Option Value) (scope : Scope) (body : List Stmt) : Prop where
  nb : nameB body = true
  loc : ∀ x ∈ nmN, scope.names.lookup x = some .local
  gl : ∀ x ∈ nmG ++ nmA, scope.names.lookup x = some .globalImplicit
  isi : mg "isinstance" = none
  ve : mg "ValueError" = none
  cls : ∀ x ∈ nmA, mg x = some (.ref (He.ga K x))
  kit : ∀ c < 10, ∀ x ∈ nmA, PySem.W.kitOne K (clsOf K c) (.ref (He.ga K x)) = some (decide (x = exAll.getD c ""))
  vk : ∀ c < 10, PySem.W.kitOne K (clsOf K c) (.type "ValueError") = some true
  exc : ∀ c < 10, ExcC K (He.ga K (exAll.getD c ""))
  exm : ∀ c < 10, PySem.W.exmOne K (clsOf K c) (.ref (He.ga K "WatchError")) = some true
theorem nmA_dbg : ∀ x ∈ nmA, (x == ("__debug__" : Str)) = false := by decide +kernel
theorem name_run {CX : CXT} {P : Program} {w : World} {K : PySem.W.Frag} {mg : Str → Option Value} {base : Heap} {f : Addr} {params : Arguments} {body : List Stmt} {scope : Scope} {dV kV doc pm cdv ct oc : Value} {an od : Option Addr} {osl : Array (Option Value)}
    (NF : NmFacts K mg scope body) (lk : K.lookup f = some ⟨oc, od, .func (PySem.W.fnOf "_law_name" "_law_name" params body scope dV kV doc pm an cdv ct), osl⟩) (hcd : PySem.W.codeIn K cdv "_law_name" = true) (S : FnScope nmN ["kept"] scope)
    {A : Around} {outer : List Env} {s : Shared} {H : Hp} {args : Args} {Q : VK} {E : XK} {p : Addr × Obj} {c : Nat} (hc : c < 10) (hz : Zc (clsOf K c) none p.2) (hf : ∃ vs, p.2.data = .fields vs) (hd : A.depth < recursionLimit) (hpin : L2H.PinOk outer H s p)
    (e0 : Env0 P w K mg base A outer s H) (hb : BindsTo s (PySem.W.fnOf "_law_name" "_law_name" params body scope dV kV doc pm an cdv ct) args ((["kept"] : List Str).zip [.ref p.1])) (hq : ∀ H2, Same H H2 → Q (.str (nmOf c)) H2) :
    codeAny (model P w) A (.call (.ref f) args) (CR CX outer P w H s Q E) s := by
  have KX : K.In s.heap := e0.mod.kin.keeps fun b o e => (e0.bs b o e).1
  have lim : s.heap.NoLimit := e0.mod.nolimit.keeps fun b o e => (e0.bs b o e).1
  have hkind : ∀ y ∈ (["kept"] : List Str).zip [Value.ref p.1], scope.names.lookup y.1 = some .local ∨ (scope.names.lookup y.1 = some .cell ∧ ((cellsFrom (s.heap.objs.size + 1) scope.names []).lookup y.1).isSome = true) := fun ⟨n, v⟩ hy => by
    rcases S.par n (List.of_mem_zip hy).1 with q | q
    · exact .inl q
    · exact .inr ⟨q, PySem.W.cellsFrom_some _ _ _ (.inl q)⟩
  refine codeAny_call_function hd (KX _ _ lk) rfl S.co S.gen rfl (PySem.W.codeRec_of KX hcd) (hb _ _ _ _ ?_)
  refine wpAny_newFunctionEnv_cells S.kind hkind fun env he s1 x => ?_
  subst he
  refine ⟨lim.keeps x.toInCall.keep, codeAny_func ?_⟩
  let Y : Cx := L2H.cxH CX P w K mg base nmN "_law_name" scope f cdv A outer s H E p
  have N : NmOk Y p.1 (He.ga K (exAll.getD c "")) (nm1 ++ (nm2 ++ nm3)) (fun x => decide (x = exAll.getD c "")) := {
    hN := rfl
    loc := NF.loc
    gl := NF.gl
    isi := NF.isi
    ve := NF.ve
    cls := fun x hx => ⟨NF.cls x hx, NF.kit c hc x hx⟩
    vk := NF.vk c hc
    isc := call_isP (Y := Y) (show (p.1, p.2) ∈ [p] from List.mem_singleton.mpr rfl) (NF.exc c hc) hz hf
    dbg := nmA_dbg }
  obtain ⟨t, ht, hq'⟩ := name_body N NF.nb hc rfl
  have I : Inv Y [] (L2.start nmN [.ref p.1]) H s1 := L2H.inv_startH S hpin e0 rfl (.cons rfl .nil) x
  refine wpAny_mono (ht.run [] s1 (L2.start nmN [.ref p.1]) H _ I (hq' H Q (fun _ H' => Q .non H') hq)) (fun fl s' hs => ?_) fun e s' hs => hs
  have fin : ∀ {σ' : L2.St} {H' : Hp} {v : V} {u : Value}, Inv Y [] σ' H' s' → RelV v u → Q v H' → CE outer P w H s Q u s' := fun {σ' H' v u} J rv q => ⟨v, H', J.os, J.bare, J.base, J.hok, rv, q⟩
  cases fl with
  | ret u =>
    obtain ⟨v, σ', H', J, rv, q⟩ := hs
    exact fin J rv q
  | next =>
    obtain ⟨σ', H', J, q⟩ := hs
    exact fin (v := V.non) (u := Value.none) J rfl q
  | brk =>
    obtain ⟨_, _, _, q⟩ := hs
    exact False.elim q
  | cont =>
    obtain ⟨_, _, _, q⟩ := hs
    exact False.elim q
/-! ### the def that is handed the lambda -/
def toN : List Str := ["deed", "e"]
def toldB : List Stmt → Bool
  | [.Try [.Return (some (.Call (.Name d _) [] [] _)) _] [.ExceptHandler (some (.Name w _)) (some e) [.Return (some (.Call (.Name n _) [.Name e2 _] [] _)) _] _] [] [] _] =>
    decide (d = ("deed" : Str)) && decide (w = ("WatchError" : Str)) && decide (e = ("e" : Str)) && decide (n = ("_law_name" : Str)) && decide (e2 = ("e" : Str))
  | _ => false
/-- what the text says of the two defs -/
structure ToFacts (K : PySem.W.Frag) (mg : Str → Option Value) : Prop where
  ex : ∃ (f : Addr) (params : Arguments) (body : List Stmt) (scope : Scope) (dV kV doc pm cdv ct oc : Value) (an od : Option Addr) (osl : Array (Option Value)), NmFacts K mg scope body ∧ mg "_law_name" = some (.ref f) ∧ PySem.W.keepIn K (.ref f) = true ∧
    K.lookup f = some ⟨oc, od, .func (PySem.W.fnOf "_law_name" "_law_name" params body scope dV kV doc pm an cdv ct), osl⟩ ∧ PySem.W.codeIn K cdv "_law_name" = true ∧ FnScope nmN ["kept"] scope ∧ Binds K (PySem.W.fnOf "_law_name" "_law_name" params body scope dV kV doc pm an cdv ct) ["kept"] []
  we : mg "WatchError" = some (.ref (He.ga K "WatchError"))
theorem name_call {Z : Cx} {a : Addr} {oe : Obj} {pn : List (Addr × Obj)} {c : Nat} {p1 p2 pos : Pos} (TF : ToFacts Z.K Z.mg) (hN : Z.N = toN) (hl : Z.env.scope.names.lookup ("e" : Str) = some .local) (hg : Z.env.scope.names.lookup ("_law_name" : Str) = some .globalImplicit)
    (hd : Z.A.depth < recursionLimit) (hc : c < 10) (hz : Zc (clsOf Z.K c) none oe) (hf : ∃ vs, oe.data = .fields vs) :
    PE (Z.suite a ((a, oe) :: pn)) (.Call (.Name "_law_name" p1) [.Name "e" p2] [] pos) (fun σ H Q => σ[1]? = some (some (.ref a)) ∧ ∀ H2, Same H H2 → Q (.str (nmOf c)) H2) := by
  obtain ⟨f, params, body, scope, dV, kV, doc, pm, cdv, ct, oc, an, od, osl, NF, hm, hk, lk, hcd, S, hB⟩ := TF.ex
  refine ⟨fun pins s σ H Q I h => ?_⟩
  obtain ⟨h1, hq⟩ := h
  refine wpAny_Call_Name_kw (ld_glob I hg hm ?_ (by decide))
  have ha := pa_cons (X := Z.suite a ((a, oe) :: pn)) (pe_var (pos := p2) (i := 1) (x := "e") (by rw [show (Z.suite a ((a, oe) :: pn)).N = toN from hN]; rfl) (.inl hl)) pa_nil rfl
  refine PySem.W.callWith_K (h₀ := Z.base) I.ok.mod.kin hk (thn (ha.run pos pins s σ H (fun vs H1 => vs = [.ref a] ∧ H1 = H) I ⟨_, h1, rfl, rfl⟩) fun us s1 ⟨vs, H1, I1, r, q⟩ => ⟨I1.kIn, ?_⟩) rfl rfl
  obtain ⟨rfl, rfl⟩ := q
  obtain ⟨u, rfl, ru⟩ := vals1 r
  cases ru
  have P1 := I1.pin (a, oe) (List.mem_append_left _ List.mem_cons_self)
  have hpin : L2H.PinOk (Z.suite a ((a, oe) :: pn)).stack H1 s1 (a, oe) := ⟨P1.1, P1.2.1, fun hm => (List.mem_cons.mp (I1.stkSub a hm)).elim P1.2.2.1 P1.2.2.2.1, P1.2.2.2.2⟩
  have b := hB s1 [.ref a] I1.kIn rfl
  rw [List.append_nil] at b
  refine wpAny_call (codeAny_mono (name_run (CX := C8.CX0) (E := C8.E0) (Q := Q) (p := (a, oe)) NF lk hcd S hc hz hf hd hpin I1.env0 b hq) fun r s' hq => ?_)
  cases r with
  | error e => exact (show False from hq).elim
  | ok fl =>
    cases fl with
    | ret u => exact I1.after hq
    | next => exact False.elim hq
    | brk => exact False.elim hq
    | cont => exact False.elim hq
theorem told_gv {X : Cx} {sg : Scope} {g : Addr} {cdg : Value} {body : List Stmt} {q : Str} (TF : ToFacts X.K X.mg) (hB : toldB body = true) (S : FnScope toN ["deed"] sg) (hle : sg.names.lookup ("e" : Str) = some .local) (hgn : sg.names.lookup ("_law_name" : Str) = some .globalImplicit) (hgw : sg.names.lookup ("WatchError" : Str) = some .globalImplicit)
    (hd : X.A.depth + 1 < recursionLimit) : LamX.GivesTo X toN "_law_told" sg g cdg body "deed" q (TTn (clsOf X.K)) := by
  intro f c' s H Q tl act hc h
  unfold toldB at hB
  split at hB
  · rename_i d pd pc pr w pw e n pn1 e2 pe2 pcn prn ph pt
    simp only [Bool.and_eq_true, decide_eq_true_eq] at hB
    obtain ⟨⟨⟨⟨rfl, rfl⟩, rfl⟩, rfl⟩, rfl⟩ := hB
    have hgl : Gl (cxOf C8.CX0 X.prog X.w X.K X.mg X.base toN "_law_told" sg g cdg X.A X.stack s H C8.E0).nox "WatchError" := hgw
    obtain ⟨_, _, _, _, _, _, _, _, _, _, _, _, _, _, NF, _⟩ := TF.ex
    refine ⟨_, pss_one (ps_try_as (X := (cxOf C8.CX0 X.prog X.w X.K X.mg X.base toN "_law_told" sg g cdg X.A X.stack s H C8.E0).nox) (c := .ref (He.ga X.K "WatchError")) (i := 1)
      (tb := fun W D σ H => ∃ Ech : XK, (∀ cls d σ' H', Ech cls d H' → W cls d σ' H') ∧ σ[0]? = some (some (.ref f)) ∧ H c' = some (LamX.CodeO c' q) ∧ tl Ech H D.rt)
      (ts := fun a cls d D σ H => ∃ c, c < 10 ∧ cls = clsOf X.K c ∧ d = none ∧ (1 < σ.length → σ[1]? = some (some (.ref a))) ∧ ∀ H2, Same H H2 → D.rt (.str (nmOf c)) H2)
      rfl rfl S.nd rfl hle ⟨hgl, by decide, .inl TF.we⟩ LamX.takes0 (fun W pn xe tk _ => ?_) (fun a oe cls d pn hz hf => ?_)), ?_⟩
    · refine ⟨fun pins s' σ H' D I h' => ?_⟩
      obtain ⟨Ech, hW, h1, h2, h3⟩ := h'
      exact (pss_one (ps_ret (pos := pr) (act W pn xe Ech pd pc tk hW))).run pins s' σ H' D I ⟨h1, h2, h3⟩
    · refine ⟨fun pins s' σ H' D I h' => ?_⟩
      obtain ⟨c, hcc, rfl, rfl, h1, h2⟩ := h'
      exact (pss_one (ps_ret (pos := prn) (name_call (Z := (cxOf C8.CX0 X.prog X.w X.K X.mg X.base toN "_law_told" sg g cdg X.A X.stack s H C8.E0).nox) (c := c) TF rfl hle hgn hd hcc hz hf))).run pins s' σ H' D I ⟨h1 (by rw [I.len]; exact (by decide : 1 < toN.length)), h2⟩
    · refine ⟨_, fun cls d σ' H' z => ?_, rfl, hc, h⟩
      obtain ⟨c, hcc, rfl, rfl, hq⟩ := z
      exact ⟨true, NF.exm c hcc, fun _ a ha => ⟨c, hcc, rfl, rfl, fun hl => by rw [List.getElem?_set_self (by simpa using hl)], hq⟩, fun z => by cases z⟩
  · cases hB
end Bp

namespace Bp
open PySem L2 PyProof.Rows
/-! ### a law that hands lambdas on -/
def spLawT (K : PySem.W.Frag) : Sp := fun vs H Q _ => ∃ (a : Addr) (ns : List Int), vs = [.ref a] ∧ SqL K H a (ns.map V.int) ∧ ns.length ≤ 63 ∧ H (tabL K) = some (.tbl #[]) ∧ ∀ H', Q (.bl true) H'
/-- all but the tables -/
def ntI (H : Hp) : Hp := fun a => match H a with
  | some o => if nt o = true then some o else none
  | none => none
theorem ntI_some {H : Hp} {a : Addr} {o : HO} (h : ntI H a = some o) : H a = some o ∧ nt o = true := by
  unfold ntI at h
  split at h
  · rename_i u hu
    split at h
    · rename_i hn; cases h; exact ⟨hu, hn⟩
    · cases h
  · cases h
theorem ntI_of {H : Hp} {a : Addr} {o : HO} (h : H a = some o) (hn : nt o = true) : ntI H a = some o := by
  unfold ntI
  rw [h]
  exact if_pos hn
theorem ntI_tbl {H : Hp} {a : Addr} {ps : Array Value} (h : H a = some (.tbl ps)) : ntI H a = none := by
  unfold ntI
  rw [h]
  exact if_neg (fun z => by cases z)
theorem okLawT {P : Program} {w : World} {K : PySem.W.Frag} {mg : Str → Option Value} {base : Heap} {C : Cg} {params pg : Arguments} {body bg : List Stmt} {sg : Scope} {f g : Addr} {fd fdT : FuncData} (t : T)
    (F : FunD K "law" "law" params body C.sc [] [] f fd) (ef : f = He.fAd K (("law" : Str), none)) (S : FnScope C.N ["script"] C.sc) (hfn : ∀ x, C.fn x = true) (hcl : C.cls = clsOf K) (hlv : 2 ≤ C.lv) (hc : chkSs C t body = true) (Z : Facts P w K mg base C)
    (Z2 : ∀ (i : Nat) x, C.fns[i]? = some x → ∃ f fd ps, mg x = some (.ref f) ∧ PySem.W.keepIn K (.ref f) = true ∧ Binds K fd ps [] ∧ (∀ ds, C.E.F i ds ≠ .no → ds.length = ps.length) ∧ FnOk P w K mg base (L2.CX P w) (C.lv - 2) f fd ps (spP C.cls K ps.length (C.E.F i)))
    (TF : ToFacts K mg) (FT : FunD K "_law_told" "_law_told" pg bg sg [] [] g fdT) (gT : mg "_law_told" = some (.ref g)) (bT : Binds K fdT ["deed"] []) (ST : FnScope toN ["deed"] sg) (hB : toldB bg = true) (hsg : (sg.names.lookup ("e" : Str) = some .local ∧ sg.names.lookup ("deed" : Str) = some .local) ∧ sg.names.lookup ("_law_name" : Str) = some .globalImplicit ∧ sg.names.lookup ("WatchError" : Str) = some .globalImplicit)
    (TB : LamX.TabB base mg (He.cT K (("law" : Str), none)).1 (tabL K)) (hl : ∀ ns : List Int, ns.length ≤ 63 → runLaw C.E 1 C.N.length t [.scr ns] = .ok (.bl true)) : FnOk P w K mg base (L2.CX P w) (C.lv + 1) f fd ["script"] (spLawT K) := by
  obtain ⟨oc, od, dV, kV, doc, pm, an, cdv, ct, osl, rfl, lk, hcd, _, _⟩ := F.ex
  obtain ⟨ocT, odT, dVT, kVT, docT, pmT, anT, cdvT, ctT, oslT, rfl, lkT, hcdT, _, _⟩ := FT.ex
  obtain ⟨cc, rfl⟩ := He.codeIn_ref hcd
  have ecc : (He.cT K (("law" : Str), none)).1 = cc := He.codeOf_eq (p := (("law" : Str), none)) (by rw [← ef]; exact lk) rfl
  rw [ecc] at TB
  refine fn_of lk hcd S (fun vs H Q E h => by obtain ⟨a, ns, rfl, _⟩ := h; rfl) ?_
  intro A outer s H vs Q E hr hsp
  let X : Cx := cxOf (L2.CX P w) P w K mg base C.N "law" C.sc f (.ref cc) A outer s H E
  let W : WN := fun c σ H' => E (C.cls c) none H'
  have cx : Ctx3 C X W := {
    hN := rfl
    nd := S.nd
    sc := rfl
    fn := fun x _ => rfl
    calm := rfl
    room := hr
    blt := Z.blt
    takes := (takes_of (X := X) (E := E) rfl rfl rfl rfl).imp fun cl d σ H' q => by
      obtain ⟨c, rfl, rfl, z⟩ := q
      exact z
    fns := Z.fns
    cons := Z.cons
    own := passes_of (X := X) rfl
    kind := by
      have hk : X.env.scope.kind = .function := S.kind
      unfold Env.blockKind
      rw [hk]
      rfl
    skind := S.kind
    exc := fun i x hx h0 => by
      obtain ⟨Ca, e1, e2, e3, e4, e5, e6⟩ := Z.exc i x hx h0
      exact ⟨Ca, _, _, _, _, e1, PySem.F.excBase_ValueError, e3, e2, e4, raises_own e5 e6⟩
    told := fun _ => {
      call := ⟨g, cc, pg, bg, sg, dVT, kVT, docT, pmT, cdvT, ctT, ocT, anT, odT, oslT, toN, "deed", gT, FT.kp, lkT, hcdT, bT, ST, rfl, .inl hsg.1.2, by decide, by decide, by rw [hcl]; exact told_gv (X := X) TF hB ST hsg.1.1 hsg.2.1 hsg.2.2 (by have h1 : X.A.depth + 3 * C.lv + 5 < recursionLimit := hr.dp; omega), TB, rfl⟩
      qual := rfl
      lv := hlv
      fns := Z2 } }
  obtain ⟨a, ns, rfl, hS, hn, hT, hQ⟩ := hsp
  let B : Fm := ⟨H, ntI H, fun a => ∃ ps, H a = some (.tbl ps), fun _ => False, fun _ => False, true⟩
  have R : Rel K B (ntI H) [tabL K] [.tab] H := {
    sub := fun a o h => .inl ⟨fun z => z, (ntI_some h).1⟩
    lk := fun a z => z.elim
    len := rfl
    nd := by simp
    cell := fun n a c h1 h2 => by
      cases n with
      | succ n => simp at h1
      | zero =>
        simp at h1 h2
        subst h1 h2
        exact ⟨ntI_tbl hT, rfl, LamX.TabS.nil hT⟩
    keep := fun a o h _ => .inl ⟨fun z => z, h⟩
    lkn := fun a z => z.elim
    live := fun a h => .inl h
    own := fun n a c h1 h2 m => by
      cases n with
      | succ n => simp at h1
      | zero =>
        simp at h1
        subst h1
        exact .inl ⟨_, hT⟩
    ext := fun a o h => .inl h
    base := Same.refl _
    tb0 := fun _ => rfl
    tb := fun _ => ⟨fun a ps h => ⟨ps, h⟩, fun a o h => (ntI_some h).2⟩ }
  have hS' : SqL K (ntI H) a (ns.map V.int) := by
    rcases hS with (h | ⟨ob, h⟩) | h
    · exact .inl (.inl (ntI_of h rfl))
    · exact .inl (.inr ⟨ob, ntI_of h rfl⟩)
    · exact .inr h
  have ra : RpA K (ntI H) [] [.ref a] [.scr ns] := .cons (.scr hS') .nil
  refine ⟨_, (sndS t).2 B C X W body cx hc, ntI H, [tabL K], [D.scr ns].map some ++ List.replicate (C.N.length - [D.scr ns].length) none, [.tab], R, (start_sl ra).mono ⟨Same.refl _, fun n a h => by simp at h⟩, ?_⟩
  have h0 := hl ns hn
  unfold runLaw at h0
  rw [if_pos (show [D.scr ns].length = 1 from rfl)] at h0
  cases e : evS C.E t ([D.scr ns].map some ++ List.replicate (C.N.length - [D.scr ns].length) none) [.tab] with
  | no => rw [e] at h0; cases h0
  | ct r S' => rw [e] at h0; cases h0
  | bk r S' => rw [e] at h0; cases h0
  | nx r S' => rw [e] at h0; cases h0
  | ex c r S' => rw [e] at h0; cases h0
  | rt d S' =>
    rw [e] at h0
    simp only at h0
    split at h0
    · cases h0
      intro I' M' H' v le R' rp
      cases rp
      exact hQ H'
    · cases h0
/-! ### what is asked of the head -/
def excB (K : PySem.W.Frag) (D : Addr) : Bool :=
  (PySem.W.findIn K (.ref D) "__getattribute__" == some (some (.builtin "BaseException.__getattribute__"))) && (PySem.W.findIn K (.ref D) "__getattr__" == some none) && (PySem.W.subIn K (.ref D) (.type "BaseException") == some true) && PySem.W.hasDictIn K D &&
  (PySem.W.findIn K (.ref D) "__class__" == some (some (.builtin "object.__class__"))) && (PySem.W.specialIn K (.builtin "object.__class__") "__get__" == some (some (.builtin "getset_descriptor.__get__"))) && (PySem.W.takesIn K (.builtin "object.__class__") == some true) && (PySem.W.mroIn K D (.type "object") == some true)
theorem excB_ok {K : PySem.W.Frag} {D : Addr} (h : excB K D = true) : ExcC K D := by
  unfold excB at h
  simp only [Bool.and_eq_true, beq_iff_eq] at h
  obtain ⟨⟨⟨⟨⟨⟨⟨h1, h2⟩, h3⟩, h4⟩, h5⟩, h6⟩, h7⟩, h8⟩ := h
  exact ⟨h1, h2, h3, h4, h5, h6, h7, h8⟩
def exC (K : PySem.W.Frag) (c : Nat) : Bool := (nmA.all fun x => PySem.W.kitOne K (clsOf K c) (.ref (He.ga K x)) == some (decide (x = exAll.getD c ""))) && (PySem.W.kitOne K (clsOf K c) (.type "ValueError") == some true) && excB K (He.ga K (exAll.getD c "")) && (PySem.W.exmOne K (clsOf K c) (.ref (He.ga K "WatchError")) == some true)
def exB (K : PySem.W.Frag) : Bool := (List.range 10).all (exC K)
theorem exB_ok {K : PySem.W.Frag} (h : exB K = true) {c : Nat} (hc : c < 10) : exC K c = true := List.all_eq_true.mp h c (List.mem_range.mpr hc)
section
variable {P : Program} {w : World} {K : PySem.W.Frag} {mg : Str → Option Value} {base : Heap}
theorem mkTo {here : List Str} (Z : Base K mg here) (hh : (nmA.all fun x => here.contains x) = true) (hwe : mg "WatchError" = some (.ref (He.ga K "WatchError"))) {params : Arguments} {body : List Stmt} {scope : Scope} {f : Addr} {fd : FuncData}
    (F : FunD K "_law_name" "_law_name" params body scope [] [] f fd) (g : mg "_law_name" = some (.ref f)) (b : Binds K fd ["kept"] []) (S : FnScope nmN ["kept"] scope) (nb : nameB body = true) (loc : (nmN.all fun x => decide (scope.names.lookup x = some .local)) = true)
    (gl : ((nmG ++ nmA).all fun x => decide (scope.names.lookup x = some .globalImplicit)) = true) (ex : exB K = true) : ToFacts K mg := by
  obtain ⟨oc, od, dV, kV, doc, pm, an, cdv, ct, osl, rfl, lk, hcd, _, _⟩ := F.ex
  refine ⟨⟨f, params, body, scope, dV, kV, doc, pm, cdv, ct, oc, an, od, osl, ?_, g, F.kp, lk, hcd, S, b⟩, hwe⟩
  have E : ∀ c < 10, (((∀ x ∈ nmA, PySem.W.kitOne K (clsOf K c) (.ref (He.ga K x)) = some (decide (x = exAll.getD c ""))) ∧ PySem.W.kitOne K (clsOf K c) (.type "ValueError") = some true) ∧ excB K (He.ga K (exAll.getD c "")) = true) ∧ PySem.W.exmOne K (clsOf K c) (.ref (He.ga K "WatchError")) = some true := fun c hc => by
    have := exB_ok ex hc
    unfold exC at this
    simp only [Bool.and_eq_true, beq_iff_eq, List.all_eq_true] at this
    exact this
  exact ⟨nb, fun x hx => of_decide_eq_true (List.all_eq_true.mp loc x hx), fun x hx => of_decide_eq_true (List.all_eq_true.mp gl x hx), Z.blt _ (by decide +kernel), Z.blt _ (by decide +kernel),
    fun x hx => (Z.exc x (by simpa using List.all_eq_true.mp hh x hx)).1, fun c hc => (E c hc).1.1.1, fun c hc => (E c hc).1.1.2, fun c hc => excB_ok (E c hc).1.2, fun c hc => (E c hc).2⟩
theorem HasAll.up {j k : Nat} (hk : j ≤ k) {F : Nat → List D → Bp.P} : ∀ {xs : List Str} {i : Nat}, HasAll P w K mg base j F i xs → HasAll P w K mg base k F i xs
  | [], _, _ => trivial
  | _ :: _, _, ⟨h1, h2⟩ => ⟨h1.up hk, HasAll.up hk h2⟩
theorem facts_of {here : List Str} (Z : Base K mg here) {N fns cons : List Str} {sc : Scope} {fn : Str → Bool} {lv : Nat} {E : Env'} {b : Bool} (hf : HasAll P w K mg base lv E.F 0 fns) (hk : ConAll K mg E.G 0 cons) : Facts P w K mg base ⟨N, sc, fn, lv, fns, exOf here, cons, clsOf K, E, b⟩ := by
  refine ⟨Z.blt, fun i y hy => ?_, fun i y hy => ?_, fun i y hy h0 => ?_⟩
  · have := hf.get i y hy
    rw [Nat.zero_add] at this
    exact this
  · have := hk.get i y hy
    rw [Nat.zero_add] at this
    exact this
  · have hy : (exOf here)[i]? = some y := hy
    unfold exOf at hy
    rw [List.getElem?_map] at hy
    cases e : exAll[i]? with
    | none => rw [e] at hy; cases hy
    | some z =>
      rw [e] at hy
      simp only [Option.map_some, Option.some.injEq] at hy
      by_cases hz : here.contains z = true
      · rw [if_pos hz] at hy
        subst hy
        obtain ⟨e1, e2, e3, e4, e5⟩ := Z.exc z (by simpa using hz)
        refine ⟨He.ga K z, ?_, e1, e2, e3, e4, e5⟩
        show clsOf K i = _
        unfold clsOf
        rw [List.getD_eq_getElem?_getD, e]
        rfl
      · rw [if_neg hz] at hy
        exact absurd hy.symm h0
theorem mkLawT {here : List Str} (Z : Base K mg here) {params pg : Arguments} {body bg : List Stmt} {sc sg : Scope} {f g : Addr} {fd fdT : FuncData} (t : T) (N fns cons : List Str) (E : Env') (lv : Nat)
    (F : FunD K "law" "law" params body sc [] [] f fd) (ef : f = He.fAd K (("law" : Str), none)) (S : FnScope N ["script"] sc) (hc : chkSs ⟨N, sc, fun _ => true, lv + 2, fns, exOf here, cons, clsOf K, E, true⟩ t body = true)
    (hf : HasAll P w K mg base lv E.F 0 fns) (hk : ConAll K mg E.G 0 cons) (TF : ToFacts K mg) (FT : FunD K "_law_told" "_law_told" pg bg sg [] [] g fdT) (gT : mg "_law_told" = some (.ref g)) (bT : Binds K fdT ["deed"] []) (ST : FnScope toN ["deed"] sg) (hB : toldB bg = true)
    (hsg : ((decide (sg.names.lookup ("e" : Str) = some .local) && decide (sg.names.lookup ("deed" : Str) = some .local)) && (decide (sg.names.lookup ("_law_name" : Str) = some .globalImplicit) && decide (sg.names.lookup ("WatchError" : Str) = some .globalImplicit))) = true)
    (TB : LamX.TabB base mg (He.cT K (("law" : Str), none)).1 (tabL K)) (hl : ∀ ns : List Int, ns.length ≤ 63 → runLaw E 1 N.length t [.scr ns] = .ok (.bl true)) : FnOk P w K mg base (L2.CX P w) (lv + 3) f fd ["script"] (spLawT K) := by
  simp only [Bool.and_eq_true, decide_eq_true_eq] at hsg
  exact okLawT (C := ⟨N, sc, fun _ => true, lv + 2, fns, exOf here, cons, clsOf K, E, true⟩) t F ef S (fun _ => rfl) rfl (Nat.le_add_left 2 lv) hc (facts_of Z (hf.up (Nat.le_add_right _ _)) hk) (facts_of (N := N) (sc := sc) (fn := fun _ => true) (b := true) Z hf hk).fns TF FT gT bT ST hB hsg TB hl
end
/-- nothing leaves the law -/
theorem cx_none {P : Program} {w : World} {H : Hp} {s : Shared} {e : Value} {s' : Shared} (q : L2.CX P w [] H s (fun _ _ _ => False) e s') : False := by
  obtain ⟨_, _, _, _, _, _, _, _, _, _, _, _, z⟩ := q
  exact z.elim
end Bp

namespace Bp
open PySem
def t_is_whole : T := (.cons (.ret (.and (.o1 (.isi .int) (.v 0)) (.and (.not (.o1 (.isi .bool) (.v 0))) (.ch .le .le (.v 1) (.v 0) (.v 2))))) .nil)
def E_is_whole : Env' := mkE [] []
def F_is_whole : List D → P := runDef E_is_whole 3 3 t_is_whole
def t_is_deed_x1 : T := (.xc [1] (.n 1) (.it1 .chars (.v 0)) .nil (.o2 .inS (.v 1) (.g 1)))
def t_is_deed : T := (.cons (.ret (.and (.o1 (.isi .str) (.v 0)) (.and (.o2 .le (.o1 .len (.v 0)) (.g 0)) (.o1 .allB (.im t_is_deed_x1))))) .nil)
def E_is_deed : Env' := mkE [] [.int 6, .str "abcdefghijklmnopqrstuvwxyz"]
theorem E_is_deed_G0 : E_is_deed.G 0 = .int 6 := rfl
theorem E_is_deed_G1 : E_is_deed.G 1 = .str "abcdefghijklmnopqrstuvwxyz" := rfl
def F_is_deed : List D → P := runDef E_is_deed 1 2 t_is_deed
def t_is_step : T := (.cons (.iff (.or (.not (.o1 (.isi .tuple) (.v 0))) (.o2 .ne (.o1 .len (.v 0)) (.k (.int 2)))) (.cons (.ret (.k (.bl false))) .nil) .nil) (.cons (.ret (.and (.call 0 (.cons (.o2 .idx (.v 0) (.k (.int 0))) (.cons (.k (.int 0)) (.cons (.o2 .sub (.v 1) (.k (.int 1))) .nil)))) (.call 1 (.cons (.o2 .idx (.v 0) (.k (.int 1))) .nil)))) .nil))
def E_is_step : Env' := mkE [F_is_whole, F_is_deed] []
theorem E_is_step_F0 : E_is_step.F 0 = F_is_whole := rfl
theorem E_is_step_F1 : E_is_step.F 1 = F_is_deed := rfl
def F_is_step : List D → P := runDef E_is_step 2 2 t_is_step
def t_is_plan_x1 : T := (.xc [2] (.n 2) (.it1 .seq (.v 1)) .nil (.call 0 (.cons (.v 2) (.cons (.o1 .len (.v 0)) .nil))))
def t_is_plan_b1 : T := (.cons (.iff (.or (.not (.o1 (.isi .tuple) (.v 1))) (.or (.not (.ch .le .le (.k (.int 1)) (.o1 .len (.v 1)) (.g 1))) (.o2 .ne (.o1 .len (.v 1)) (.o1 .len (.o2 .idx (.v 0) (.k (.int 0))))))) (.cons (.ret (.k (.bl false))) .nil) .nil) (.cons (.iff (.not (.o1 .allB (.im t_is_plan_x1))) (.cons (.ret (.k (.bl false))) .nil) .nil) .nil))
def t_is_plan_f1 : T := (.for_ (.n 1) (.it1 .seq (.v 0)) t_is_plan_b1)
def t_is_plan : T := (.cons (.iff (.or (.not (.o1 (.isi .tuple) (.v 0))) (.not (.ch .le .le (.k (.int 1)) (.o1 .len (.v 0)) (.g 0)))) (.cons (.ret (.k (.bl false))) .nil) .nil) (.cons t_is_plan_f1 (.cons (.ret (.k (.bl true))) .nil)))
def E_is_plan : Env' := mkE [F_is_step] [.int 6, .int 3]
theorem E_is_plan_F0 : E_is_plan.F 0 = F_is_step := rfl
theorem E_is_plan_G0 : E_is_plan.G 0 = .int 6 := rfl
theorem E_is_plan_G1 : E_is_plan.G 1 = .int 3 := rfl
def F_is_plan : List D → P := runDef E_is_plan 1 3 t_is_plan
def t_look_plan : T := (.cons (.iff (.not (.call 0 (.cons (.v 0) .nil))) (.cons (.rse 0) .nil) .nil) .nil)
def E_look_plan : Env' := mkE [F_is_plan] []
theorem E_look_plan_F0 : E_look_plan.F 0 = F_is_plan := rfl
def F_look_plan : List D → P := runDef E_look_plan 1 1 t_look_plan
def t_look_mode : T := (.cons (.iff (.not (.call 0 (.cons (.v 1) (.cons (.k (.int 0)) (.cons (.o2 .sub (.o1 .len (.v 0)) (.k (.int 1))) .nil))))) (.cons (.rse 2) .nil) .nil) .nil)
def E_look_mode : Env' := mkE [F_is_whole] []
theorem E_look_mode_F0 : E_look_mode.F 0 = F_is_whole := rfl
def F_look_mode : List D → P := runDef E_look_mode 2 2 t_look_mode
def t_is_row_x1 : T := (.xc [2] (.n 2) (.it1 .seq (.v 1)) .nil (.call 0 (.cons (.v 2) (.cons (.k (.int 0)) (.cons (.o2 .sub (.v 0) (.k (.int 1))) .nil)))))
def t_is_row : T := (.cons (.iff (.or (.not (.o1 (.isis [.list, .tuple]) (.v 1))) (.o2 .gt (.o1 .len (.v 1)) (.g 0))) (.cons (.ret (.k (.bl false))) .nil) .nil) (.cons (.ret (.o1 .allB (.im t_is_row_x1))) .nil))
def E_is_row : Env' := mkE [F_is_whole] [.int 40]
theorem E_is_row_F0 : E_is_row.F 0 = F_is_whole := rfl
theorem E_is_row_G0 : E_is_row.G 0 = .int 40 := rfl
def F_is_row : List D → P := runDef E_is_row 2 3 t_is_row
def t_look_all : T := (.cons (.ex (.call 0 (.cons (.v 0) .nil))) (.cons (.ex (.call 1 (.cons (.v 0) (.cons (.v 1) .nil)))) (.cons (.iff (.not (.call 2 (.cons (.o1 .len (.o2 .idx (.v 0) (.k (.int 0)))) (.cons (.v 2) .nil)))) (.cons (.rse 3) .nil) .nil) .nil)))
def E_look_all : Env' := mkE [F_look_plan, F_look_mode, F_is_row] []
theorem E_look_all_F0 : E_look_all.F 0 = F_look_plan := rfl
theorem E_look_all_F1 : E_look_all.F 1 = F_look_mode := rfl
theorem E_look_all_F2 : E_look_all.F 2 = F_is_row := rfl
def F_look_all : List D → P := runDef E_look_all 3 3 t_look_all
def t_steps_of_b1 : T := (.cons (.ex (.app 3 (.o2 .idx (.o2 .idx (.v 0) (.v 1)) (.v 4)))) (.cons (.asg (.n 1) (.o2 .idx (.o2 .idx (.o2 .idx (.v 0) (.v 1)) (.v 4)) (.k (.int 0)))) .nil))
def t_steps_of_f1 : T := (.for_ (.n 4) (.it1 .seq (.v 2)) t_steps_of_b1)
def t_steps_of : T := (.cons (.asg (.n 3) (.mk (.xl .nil))) (.cons t_steps_of_f1 (.cons (.ret (.frz (.v 3))) .nil)))
def E_steps_of : Env' := mkE [] []
def F_steps_of : List D → P := runDef E_steps_of 3 5 t_steps_of
def t_pressed_x1 : T := (.xc [4, 5] (.t (.cons (.n 4) (.cons (.n 5) .nil))) (.it1 .seq (.v 3)) (.o2 .ne (.v 5) (.k (.str ""))) (.v 5))
def t_pressed : T := (.cons (.ex (.call 0 (.cons (.v 0) (.cons (.v 1) (.cons (.v 2) .nil))))) (.cons (.asg (.n 3) (.call 1 (.cons (.v 0) (.cons (.v 1) (.cons (.v 2) .nil))))) (.cons (.ret (.tup (.cons (.ite (.o2 .ne (.v 3) (.im (.xl .nil))) (.o2 .idx (.o2 .idx (.v 3) (.o1 .neg (.k (.int 1)))) (.k (.int 0))) (.v 1)) (.cons (.im t_pressed_x1) .nil)))) .nil)))
def E_pressed : Env' := mkE [F_look_all, F_steps_of] []
theorem E_pressed_F0 : E_pressed.F 0 = F_look_all := rfl
theorem E_pressed_F1 : E_pressed.F 1 = F_steps_of := rfl
def F_pressed : List D → P := runDef E_pressed 3 6 t_pressed
def t_modes_met_x1 : T := (.xc [3, 4] (.t (.cons (.n 3) (.cons (.n 4) .nil))) (.it1 .seq (.call 1 (.cons (.v 0) (.cons (.v 1) (.cons (.v 2) .nil))))) .nil (.v 3))
def t_modes_met : T := (.cons (.ex (.call 0 (.cons (.v 0) (.cons (.v 1) (.cons (.v 2) .nil))))) (.cons (.ret (.o2 .add (.im (.xl (.cons (.v 1) .nil))) (.im t_modes_met_x1))) .nil))
def E_modes_met : Env' := mkE [F_look_all, F_steps_of] []
theorem E_modes_met_F0 : E_modes_met.F 0 = F_look_all := rfl
theorem E_modes_met_F1 : E_modes_met.F 1 = F_steps_of := rfl
def F_modes_met : List D → P := runDef E_modes_met 3 5 t_modes_met
def t_rows_from_b1 : T := (.cons (.iff (.o2 .ninD (.v 6) (.v 2)) (.cons (.put 2 (.v 6) (.o2 .add (.o2 .idx (.v 2) (.v 4)) (.im (.xl (.cons (.v 5) .nil))))) (.cons (.ex (.app 3 (.v 6))) .nil)) .nil) .nil)
def t_rows_from_f1 : T := (.for_ (.t (.cons (.n 5) (.cons (.t (.cons (.n 6) (.cons (.n 7) .nil))) .nil))) (.it1 .enum (.o2 .idx (.v 0) (.v 4))) t_rows_from_b1)
def t_rows_from_b2 : T := (.cons .bad (.cons t_rows_from_f1 .nil))
def t_rows_from_w1 : T := (.whl (.o2 .ne (.v 3) (.im (.xl .nil))) t_rows_from_b2)
def t_rows_from : T := (.cons .bad (.cons (.asg (.n 3) (.mk (.xl (.cons (.v 1) .nil)))) (.cons t_rows_from_w1 (.cons (.ret (.frz (.v 2))) .nil))))
def E_rows_from : Env' := mkE [] []
def F_rows_from : List D → P := runDef E_rows_from 2 8 t_rows_from
def t_way_between : T := (.cons .bad .nil)
def E_way_between : Env' := mkE [] []
def F_way_between : List D → P := runDef E_way_between 3 3 t_way_between
def t_way_to : T := (.cons (.ex (.call 0 (.cons (.v 0) .nil))) (.cons (.ex (.call 1 (.cons (.v 0) (.cons (.v 1) .nil)))) (.cons (.ex (.call 1 (.cons (.v 0) (.cons (.v 2) .nil)))) (.cons (.ret (.call 2 (.cons (.v 0) (.cons (.v 1) (.cons (.v 2) .nil))))) .nil))))
def E_way_to : Env' := mkE [F_look_plan, F_look_mode, F_way_between] []
theorem E_way_to_F0 : E_way_to.F 0 = F_look_plan := rfl
theorem E_way_to_F1 : E_way_to.F 1 = F_look_mode := rfl
theorem E_way_to_F2 : E_way_to.F 2 = F_way_between := rfl
def F_way_to : List D → P := runDef E_way_to 3 3 t_way_to
def t_way_for_b1 : T := (.cons (.iff (.and (.o2 .eq (.v 8) (.v 2)) (.o2 .ne (.v 8) (.k (.str "")))) (.cons (.ex (.app 4 (.tup (.cons (.o1 .len (.o2 .idx (.v 3) (.v 5))) (.cons (.o2 .add (.o2 .idx (.v 3) (.v 5)) (.im (.xl (.cons (.v 6) .nil)))) .nil))))) .nil) .nil) .nil)
def t_way_for_f1 : T := (.for_ (.t (.cons (.n 6) (.cons (.t (.cons (.n 7) (.cons (.n 8) .nil))) .nil))) (.it1 .enum (.o2 .idx (.v 0) (.v 5))) t_way_for_b1)
def t_way_for_b2 : T := (.cons t_way_for_f1 .nil)
def t_way_for_f2 : T := (.for_ (.n 5) (.it1 .seq (.v 3)) t_way_for_b2)
def t_way_for : T := (.cons (.asg (.n 3) (.call 0 (.cons (.v 0) (.cons (.v 1) .nil)))) (.cons (.asg (.n 4) (.mk (.xl .nil))) (.cons t_way_for_f2 (.cons .bad .nil))))
def E_way_for : Env' := mkE [F_rows_from] []
theorem E_way_for_F0 : E_way_for.F 0 = F_rows_from := rfl
def F_way_for : List D → P := runDef E_way_for 3 9 t_way_for
def t_way_to_deed : T := (.cons (.ex (.call 0 (.cons (.v 0) .nil))) (.cons (.ex (.call 1 (.cons (.v 0) (.cons (.v 1) .nil)))) (.cons (.ret (.ite (.call 2 (.cons (.v 2) .nil)) (.call 3 (.cons (.v 0) (.cons (.v 1) (.cons (.v 2) .nil)))) (.k .non))) .nil)))
def E_way_to_deed : Env' := mkE [F_look_plan, F_look_mode, F_is_deed, F_way_for] []
theorem E_way_to_deed_F0 : E_way_to_deed.F 0 = F_look_plan := rfl
theorem E_way_to_deed_F1 : E_way_to_deed.F 1 = F_look_mode := rfl
theorem E_way_to_deed_F2 : E_way_to_deed.F 2 = F_is_deed := rfl
theorem E_way_to_deed_F3 : E_way_to_deed.F 3 = F_way_for := rfl
def F_way_to_deed : List D → P := runDef E_way_to_deed 3 3 t_way_to_deed
def t_met : T := (.cons (.ex (.call 0 (.cons (.v 0) .nil))) (.cons (.ret (.im (.x1 .sortedI (.im (.x1 .list (.call 1 (.cons (.v 0) (.cons (.k (.int 0)) .nil)))))))) .nil))
def E_met : Env' := mkE [F_look_plan, F_rows_from] []
theorem E_met_F0 : E_met.F 0 = F_look_plan := rfl
theorem E_met_F1 : E_met.F 1 = F_rows_from := rfl
def F_met : List D → P := runDef E_met 1 1 t_met
def t_stranded_x1 : T := (.xc [1] (.n 1) (.it1 .seq (.call 0 (.cons (.v 0) .nil))) (.o2 .isN (.call 1 (.cons (.v 0) (.cons (.v 1) (.cons (.k (.int 0)) .nil)))) (.k .non)) (.v 1))
def t_stranded : T := (.cons (.ret (.im t_stranded_x1)) .nil)
def E_stranded : Env' := mkE [F_met, F_way_between] []
theorem E_stranded_F0 : E_stranded.F 0 = F_met := rfl
theorem E_stranded_F1 : E_stranded.F 1 = F_way_between := rfl
def F_stranded : List D → P := runDef E_stranded 1 2 t_stranded
def t_needless_x1 : T := (.xc [2] (.n 2) (.it1 .range1 (.o1 .len (.v 0))) (.o2 .ninL (.v 2) (.v 1)) (.v 2))
def t_needless : T := (.cons (.asg (.n 1) (.call 0 (.cons (.v 0) .nil))) (.cons (.ret (.im t_needless_x1)) .nil))
def E_needless : Env' := mkE [F_met] []
theorem E_needless_F0 : E_needless.F 0 = F_met := rfl
def F_needless : List D → P := runDef E_needless 1 3 t_needless
def t_deeds_of_b1 : T := (.cons (.iff (.o2 .ne (.v 4) (.k (.str ""))) (.cons (.put 1 (.v 4) (.k (.bl true))) .nil) .nil) .nil)
def t_deeds_of_f1 : T := (.for_ (.t (.cons (.n 3) (.cons (.n 4) .nil))) (.it1 .seq (.o2 .idx (.v 0) (.v 2))) t_deeds_of_b1)
def t_deeds_of_b2 : T := (.cons t_deeds_of_f1 .nil)
def t_deeds_of_f2 : T := (.for_ (.n 2) (.it1 .seq (.call 0 (.cons (.v 0) .nil))) t_deeds_of_b2)
def t_deeds_of : T := (.cons (.asg (.n 1) (.mkd false .nil)) (.cons t_deeds_of_f2 (.cons (.ret (.im (.x1 .sortedI (.im (.x1 .list (.v 1)))))) .nil)))
def E_deeds_of : Env' := mkE [F_met] []
theorem E_deeds_of_F0 : E_deeds_of.F 0 = F_met := rfl
def F_deeds_of : List D → P := runDef E_deeds_of 1 5 t_deeds_of
def t_is_want : T := (.cons (.iff (.or (.not (.o1 (.isi .tuple) (.v 0))) (.or (.o2 .ne (.o1 .len (.v 0)) (.k (.int 2))) (.or (.not (.call 0 (.cons (.o2 .idx (.v 0) (.k (.int 0))) .nil))) (.o2 .eq (.o2 .idx (.v 0) (.k (.int 0))) (.k (.str "")))))) (.cons (.ret (.k (.bl false))) .nil) .nil) (.cons (.ret (.call 1 (.cons (.o2 .idx (.v 0) (.k (.int 1))) (.cons (.k (.int 1)) (.cons (.k (.int 99)) .nil))))) .nil))
def E_is_want : Env' := mkE [F_is_deed, F_is_whole] []
theorem E_is_want_F0 : E_is_want.F 0 = F_is_deed := rfl
theorem E_is_want_F1 : E_is_want.F 1 = F_is_whole := rfl
def F_is_want : List D → P := runDef E_is_want 1 1 t_is_want
def t_look_wants_x1 : T := (.xc [1] (.n 1) (.it1 .seq (.v 0)) .nil (.call 0 (.cons (.v 1) .nil)))
def t_look_wants : T := (.cons (.iff (.or (.not (.o1 (.isis [.list, .tuple]) (.v 0))) (.or (.o2 .gt (.o1 .len (.v 0)) (.k (.int 6))) (.not (.o1 .allB (.im t_look_wants_x1))))) (.cons (.rse 4) .nil) .nil) (.cons .bad .nil))
def E_look_wants : Env' := mkE [F_is_want] []
theorem E_look_wants_F0 : E_look_wants.F 0 = F_is_want := rfl
def F_look_wants : List D → P := runDef E_look_wants 1 2 t_look_wants
def t_there_and_home : T := (.cons (.asg (.n 2) (.call 0 (.cons (.v 0) (.cons (.k (.int 0)) (.cons (.v 1) .nil))))) (.cons (.iff (.o2 .isN (.v 2) (.k .non)) (.cons (.ret (.k .non)) .nil) .nil) (.cons (.asg (.n 3) (.call 1 (.cons (.v 0) (.cons (.o2 .idx (.o2 .idx (.call 2 (.cons (.v 0) (.cons (.k (.int 0)) (.cons (.v 2) .nil)))) (.o1 .neg (.k (.int 1)))) (.k (.int 0))) (.cons (.k (.int 0)) .nil))))) (.cons (.ret (.ite (.o2 .nisN (.v 3) (.k .non)) (.o2 .add (.o1 .len (.v 2)) (.o1 .len (.v 3))) (.k .non))) .nil))))
def E_there_and_home : Env' := mkE [F_way_for, F_way_between, F_steps_of] []
theorem E_there_and_home_F0 : E_there_and_home.F 0 = F_way_for := rfl
theorem E_there_and_home_F1 : E_there_and_home.F 1 = F_way_between := rfl
theorem E_there_and_home_F2 : E_there_and_home.F 2 = F_steps_of := rfl
def F_there_and_home : List D → P := runDef E_there_and_home 2 4 t_there_and_home
def t_sum_for_x1 : T := (.xc [3, 4] (.t (.cons (.n 3) (.cons (.n 4) .nil))) (.it1 .seq (.v 1)) .nil (.call 0 (.cons (.v 0) (.cons (.v 3) .nil))))
def t_sum_for_x2 : T := (.xc [5, 6] (.t (.cons (.n 5) (.cons (.n 6) .nil))) (.it2 .zip (.v 2) (.v 1)) .nil (.o2 .mul (.v 5) (.o2 .idx (.v 6) (.k (.int 1)))))
def t_sum_for : T := (.cons (.asg (.n 2) (.im t_sum_for_x1)) (.cons (.iff (.o2 .inL (.k .non) (.v 2)) (.cons (.ret (.k .non)) .nil) .nil) (.cons (.ret (.o1 .sum (.im t_sum_for_x2))) .nil)))
def E_sum_for : Env' := mkE [F_there_and_home] []
theorem E_sum_for_F0 : E_sum_for.F 0 = F_there_and_home := rfl
def F_sum_for : List D → P := runDef E_sum_for 2 7 t_sum_for
def t_presses_for : T := (.cons (.ex (.call 0 (.cons (.v 0) .nil))) (.cons (.ex (.call 1 (.cons (.v 1) .nil))) (.cons (.ret (.call 2 (.cons (.v 0) (.cons (.v 1) .nil)))) .nil)))
def E_presses_for : Env' := mkE [F_look_plan, F_look_wants, F_sum_for] []
theorem E_presses_for_F0 : E_presses_for.F 0 = F_look_plan := rfl
theorem E_presses_for_F1 : E_presses_for.F 1 = F_look_wants := rfl
theorem E_presses_for_F2 : E_presses_for.F 2 = F_sum_for := rfl
def F_presses_for : List D → P := runDef E_presses_for 2 2 t_presses_for
def t_hardest_x1 : T := (.xc [3, 4] (.t (.cons (.n 3) (.cons (.n 4) .nil))) (.it1 .seq (.v 1)) .nil (.call 2 (.cons (.v 0) (.cons (.v 3) .nil))))
def t_hardest : T := (.cons (.ex (.call 0 (.cons (.v 0) .nil))) (.cons (.ex (.call 1 (.cons (.v 1) .nil))) (.cons (.asg (.n 2) (.im t_hardest_x1)) (.cons (.iff (.or (.o2 .eq (.v 2) (.im (.xl .nil))) (.o2 .inL (.k .non) (.v 2))) (.cons (.ret (.k .non)) .nil) .nil) (.cons .bad .nil)))))
def E_hardest : Env' := mkE [F_look_plan, F_look_wants, F_there_and_home] []
theorem E_hardest_F0 : E_hardest.F 0 = F_look_plan := rfl
theorem E_hardest_F1 : E_hardest.F 1 = F_look_wants := rfl
theorem E_hardest_F2 : E_hardest.F 2 = F_there_and_home := rfl
def F_hardest : List D → P := runDef E_hardest 2 5 t_hardest
def t_is_tell_x1 : T := (.xc [2] (.n 2) (.it1 .seq (.o2 .idx (.v 1) (.k (.int 1)))) .nil (.call 1 (.cons (.v 2) .nil)))
def t_is_tell : T := (.cons (.iff (.or (.not (.o1 (.isi .tuple) (.v 1))) (.or (.o2 .ne (.o1 .len (.v 1)) (.k (.int 2))) (.not (.o1 (.isi .tuple) (.o2 .idx (.v 1) (.k (.int 0))))))) (.cons (.ret (.k (.bl false))) .nil) .nil) (.cons (.iff (.or (.not (.o1 (.isi .tuple) (.o2 .idx (.v 1) (.k (.int 1))))) (.or (.o2 .ne (.o1 .len (.o2 .idx (.v 1) (.k (.int 0)))) (.o1 .len (.o2 .idx (.v 1) (.k (.int 1))))) (.not (.ch .le .le (.k (.int 1)) (.o1 .len (.o2 .idx (.v 1) (.k (.int 0)))) (.g 0))))) (.cons (.ret (.k (.bl false))) .nil) .nil) (.cons (.ret (.and (.call 0 (.cons (.v 0) (.cons (.o2 .idx (.v 1) (.k (.int 0))) .nil))) (.o1 .allB (.im t_is_tell_x1)))) .nil)))
def E_is_tell : Env' := mkE [F_is_row, F_is_deed] [.int 6]
theorem E_is_tell_F0 : E_is_tell.F 0 = F_is_row := rfl
theorem E_is_tell_F1 : E_is_tell.F 1 = F_is_deed := rfl
theorem E_is_tell_G0 : E_is_tell.G 0 = .int 6 := rfl
def F_is_tell : List D → P := runDef E_is_tell 2 3 t_is_tell
def t_are_tells_for_x1 : T := (.xc [2] (.n 2) (.it1 .seq (.v 1)) .nil (.call 0 (.cons (.v 0) (.cons (.v 2) .nil))))
def t_are_tells_for : T := (.cons (.iff (.or (.not (.o1 (.isi .tuple) (.v 1))) (.not (.ch .le .le (.k (.int 1)) (.o1 .len (.v 1)) (.g 0)))) (.cons (.ret (.k (.bl false))) .nil) .nil) (.cons (.ret (.o1 .allB (.im t_are_tells_for_x1))) .nil))
def E_are_tells_for : Env' := mkE [F_is_tell] [.int 4]
theorem E_are_tells_for_F0 : E_are_tells_for.F 0 = F_is_tell := rfl
theorem E_are_tells_for_G0 : E_are_tells_for.G 0 = .int 4 := rfl
def F_are_tells_for : List D → P := runDef E_are_tells_for 2 3 t_are_tells_for
def t_look_tells : T := (.cons (.iff (.not (.call 0 (.cons (.v 0) (.cons (.v 1) .nil)))) (.cons (.rse 1) .nil) .nil) .nil)
def E_look_tells : Env' := mkE [F_are_tells_for] []
theorem E_look_tells_F0 : E_look_tells.F 0 = F_are_tells_for := rfl
def F_look_tells : List D → P := runDef E_look_tells 2 2 t_look_tells
def t_does_x1 : T := (.xc [3, 4] (.t (.cons (.n 3) (.cons (.n 4) .nil))) (.it1 .seq (.call 0 (.cons (.v 0) (.cons (.k (.int 0)) (.cons (.v 1) .nil))))) .nil (.v 4))
def t_does : T := (.cons (.ret (.o2 .eq (.im t_does_x1) (.im (.x1 .list (.v 2))))) .nil)
def E_does : Env' := mkE [F_steps_of] []
theorem E_does_F0 : E_does.F 0 = F_steps_of := rfl
def F_does : List D → P := runDef E_does 3 5 t_does
def t_fits_x1 : T := (.xc [2, 3] (.t (.cons (.n 2) (.cons (.n 3) .nil))) (.it1 .seq (.v 1)) .nil (.call 2 (.cons (.v 0) (.cons (.v 2) (.cons (.v 3) .nil)))))
def t_fits : T := (.cons (.ex (.call 0 (.cons (.v 0) .nil))) (.cons (.ex (.call 1 (.cons (.o1 .len (.o2 .idx (.v 0) (.k (.int 0)))) (.cons (.v 1) .nil)))) (.cons (.ret (.o1 .allB (.im t_fits_x1))) .nil)))
def E_fits : Env' := mkE [F_look_plan, F_look_tells, F_does] []
theorem E_fits_F0 : E_fits.F 0 = F_look_plan := rfl
theorem E_fits_F1 : E_fits.F 1 = F_look_tells := rfl
theorem E_fits_F2 : E_fits.F 2 = F_does := rfl
def F_fits : List D → P := runDef E_fits 2 4 t_fits
def t_parting_row_b1 : T := (.cons (.par 7 8 (.o2 .idx (.o2 .idx (.v 0) (.o2 .idx (.v 4) (.k (.int 0)))) (.v 5)) (.o2 .idx (.o2 .idx (.v 1) (.o2 .idx (.v 4) (.k (.int 1)))) (.v 5))) (.cons (.asg (.n 6) (.o2 .add (.o2 .idx (.v 2) (.v 4)) (.im (.xl (.cons (.v 5) .nil))))) (.cons (.iff (.o2 .ne (.o2 .idx (.v 7) (.k (.int 1))) (.o2 .idx (.v 8) (.k (.int 1)))) (.cons (.ret (.v 6)) .nil) .nil) (.cons (.iff (.o2 .ninD (.tup (.cons (.o2 .idx (.v 7) (.k (.int 0))) (.cons (.o2 .idx (.v 8) (.k (.int 0))) .nil))) (.v 2)) (.cons (.put 2 (.tup (.cons (.o2 .idx (.v 7) (.k (.int 0))) (.cons (.o2 .idx (.v 8) (.k (.int 0))) .nil))) (.v 6)) (.cons (.ex (.app 3 (.tup (.cons (.o2 .idx (.v 7) (.k (.int 0))) (.cons (.o2 .idx (.v 8) (.k (.int 0))) .nil))))) .nil)) .nil) .nil))))
def t_parting_row_f1 : T := (.for_ (.n 5) (.it1 .range1 (.o1 .len (.o2 .idx (.v 0) (.k (.int 0))))) t_parting_row_b1)
def t_parting_row_b2 : T := (.cons .bad (.cons t_parting_row_f1 .nil))
def t_parting_row_w1 : T := (.whl (.o2 .ne (.v 3) (.im (.xl .nil))) t_parting_row_b2)
def t_parting_row : T := (.cons (.asg (.n 2) (.imd true (.tup (.cons (.k (.int 0)) (.cons (.k (.int 0)) .nil))) (.im (.xl .nil)))) (.cons (.asg (.n 3) (.mk (.xl (.cons (.tup (.cons (.k (.int 0)) (.cons (.k (.int 0)) .nil))) .nil)))) (.cons t_parting_row_w1 (.cons (.ret (.k .non)) .nil))))
def E_parting_row : Env' := mkE [] []
def F_parting_row : List D → P := runDef E_parting_row 2 9 t_parting_row
def t_are_alike : T := (.cons .bad (.cons (.ret (.o2 .isN (.call 0 (.cons (.v 0) (.cons (.v 1) .nil))) (.k .non))) .nil))
def E_are_alike : Env' := mkE [F_parting_row] []
theorem E_are_alike_F0 : E_are_alike.F 0 = F_parting_row := rfl
def F_are_alike : List D → P := runDef E_are_alike 2 2 t_are_alike
def t_begun_at_x1 : T := (.xc [4, 5] (.t (.cons (.n 4) (.cons (.n 5) .nil))) (.it1 .seq (.o2 .idx (.v 0) (.v 3))) .nil (.tup (.cons (.o2 .idx (.v 2) (.v 4)) (.cons (.v 5) .nil))))
def t_begun_at_x2 : T := (.xc [3] (.n 3) (.it1 .seq (.frz (.v 2))) .nil (.o1 .tuple (.im t_begun_at_x1)))
def t_begun_at : T := (.cons (.asg (.n 2) (.mk (.x1 .listRange (.o1 .len (.v 0))))) (.cons .bad (.cons (.ret (.o1 .tuple (.im t_begun_at_x2))) .nil)))
def E_begun_at : Env' := mkE [] []
def F_begun_at : List D → P := runDef E_begun_at 2 6 t_begun_at
def t_first_alike_x1 : T := (.xc [3] (.n 3) (.it1 .seq (.v 1)) (.o2 .isN (.call 0 (.cons (.call 1 (.cons (.v 0) (.cons (.v 3) .nil))) (.cons (.call 1 (.cons (.v 0) (.cons (.v 2) .nil))) .nil))) (.k .non)) (.v 3))
def t_first_alike : T := (.cons (.ret (.o2 .idx (.im t_first_alike_x1) (.k (.int 0)))) .nil)
def E_first_alike : Env' := mkE [F_parting_row, F_begun_at] []
theorem E_first_alike_F0 : E_first_alike.F 0 = F_parting_row := rfl
theorem E_first_alike_F1 : E_first_alike.F 1 = F_begun_at := rfl
def F_first_alike : List D → P := runDef E_first_alike 3 4 t_first_alike
def t_in_order : T := (.cons (.asg (.n 1) (.im (.x1 .list (.call 0 (.cons (.v 0) (.cons (.k (.int 0)) .nil)))))) (.cons .bad .nil))
def E_in_order : Env' := mkE [F_rows_from] []
theorem E_in_order_F0 : E_in_order.F 0 = F_rows_from := rfl
def F_in_order : List D → P := runDef E_in_order 1 5 t_in_order
def t_least_x1 : T := (.xc [4] (.n 4) (.it1 .seq (.v 1)) (.o2 .eq (.call 2 (.cons (.v 0) (.cons (.v 1) (.cons (.v 4) .nil)))) (.v 4)) (.v 4))
def t_least_b1 : T := (.cons .bad .nil)
def t_least_f1 : T := (.for_ (.n 4) (.it1 .seq (.v 1)) t_least_b1)
def t_least_x2 : T := (.xc [6, 7] (.t (.cons (.n 6) (.cons (.n 7) .nil))) (.it1 .seq (.o2 .idx (.v 0) (.v 4))) .nil (.tup (.cons (.o2 .idx (.v 3) (.v 6)) (.cons (.v 7) .nil))))
def t_least_x3 : T := (.xc [4] (.n 4) (.it1 .seq (.v 2)) .nil (.o1 .tuple (.im t_least_x2)))
def t_least : T := (.cons (.ex (.call 0 (.cons (.v 0) .nil))) (.cons (.asg (.n 1) (.im (.x1 .list (.call 1 (.cons (.v 0) (.cons (.k (.int 0)) .nil)))))) (.cons (.asg (.n 2) (.im t_least_x1)) (.cons (.asg (.n 3) (.mkd false .nil)) (.cons t_least_f1 (.cons (.asg (.n 5) (.o1 .tuple (.im t_least_x3))) (.cons (.ret (.call 3 (.cons (.v 5) .nil))) .nil)))))))
def E_least : Env' := mkE [F_look_plan, F_rows_from, F_first_alike, F_in_order] []
theorem E_least_F0 : E_least.F 0 = F_look_plan := rfl
theorem E_least_F1 : E_least.F 1 = F_rows_from := rfl
theorem E_least_F2 : E_least.F 2 = F_first_alike := rfl
theorem E_least_F3 : E_least.F 3 = F_in_order := rfl
def F_least : List D → P := runDef E_least 1 8 t_least
def t_with_buttons_x1 : T := (.xc [4] (.n 4) (.it1 .seq (.v 1)) .nil (.call 1 (.cons (.v 4) (.cons (.k (.int 0)) (.cons (.o2 .sub (.v 2) (.k (.int 1))) .nil)))))
def t_with_buttons_x2 : T := (.xc [5] (.n 5) (.it1 .seq (.v 1)) .nil (.o2 .idx (.v 3) (.v 5)))
def t_with_buttons_x3 : T := (.xc [3] (.n 3) (.it1 .seq (.v 0)) .nil (.o1 .tuple (.im t_with_buttons_x2)))
def t_with_buttons : T := (.cons (.ex (.call 0 (.cons (.v 0) .nil))) (.cons (.asg (.n 2) (.o1 .len (.o2 .idx (.v 0) (.k (.int 0))))) (.cons (.iff (.or (.not (.o1 (.isis [.list, .tuple]) (.v 1))) (.not (.o1 .allB (.im t_with_buttons_x1)))) (.cons (.rse 3) .nil) .nil) (.cons (.iff (.o2 .ne (.im (.x1 .sortedI (.v 1))) (.im (.x1 .listRange (.v 2)))) (.cons (.rse 3) .nil) .nil) (.cons (.ret (.o1 .tuple (.im t_with_buttons_x3))) .nil)))))
def E_with_buttons : Env' := mkE [F_look_plan, F_is_whole] []
theorem E_with_buttons_F0 : E_with_buttons.F 0 = F_look_plan := rfl
theorem E_with_buttons_F1 : E_with_buttons.F 1 = F_is_whole := rfl
def F_with_buttons : List D → P := runDef E_with_buttons 2 6 t_with_buttons
def t_step_text : T := (.cons (.ret (.o2 .add (.o2 .add (.o1 .strI (.o2 .idx (.v 0) (.k (.int 0)))) (.k (.str ":"))) (.ite (.o2 .ne (.o2 .idx (.v 0) (.k (.int 1))) (.k (.str ""))) (.o2 .idx (.v 0) (.k (.int 1))) (.k (.str "-"))))) .nil)
def E_step_text : Env' := mkE [] []
def F_step_text : List D → P := runDef E_step_text 1 1 t_step_text
def t_text_of : T := (.cons .bad .nil)
def E_text_of : Env' := mkE [] []
def F_text_of : List D → P := runDef E_text_of 1 3 t_text_of
def t_plan_text : T := (.cons (.ex (.call 0 (.cons (.v 0) .nil))) (.cons (.ret (.call 1 (.cons (.v 0) .nil))) .nil))
def E_plan_text : Env' := mkE [F_look_plan, F_text_of] []
theorem E_plan_text_F0 : E_plan_text.F 0 = F_look_plan := rfl
theorem E_plan_text_F1 : E_plan_text.F 1 = F_text_of := rfl
def F_plan_text : List D → P := runDef E_plan_text 1 1 t_plan_text
def t_u_law_cell : T := (.cons (.iff (.o2 .lt (.v 1) (.o1 .len (.v 0))) (.cons (.ret (.o2 .idx (.v 0) (.v 1))) .nil) .nil) (.cons (.iff (.o2 .eq (.v 0) (.im (.xl .nil))) (.cons (.ret (.k (.int 0))) .nil) .nil) (.cons (.ret (.o2 .add (.o2 .mul (.o2 .idx (.v 0) (.o2 .mod (.v 1) (.o1 .len (.v 0)))) (.k (.int 31))) (.v 1))) .nil)))
def E_u_law_cell : Env' := mkE [] []
def F_u_law_cell : List D → P := runDef E_u_law_cell 2 2 t_u_law_cell
def t_u_law_pick : T := (.cons (.asg (.n 3) (.o2 .mod (.o2 .mul (.o2 .add (.call 0 (.cons (.v 0) (.cons (.v 1) .nil))) (.o2 .mul (.k (.int 6151)) (.o2 .add (.v 1) (.k (.int 1))))) (.k (.int 40692))) (.k (.int 2147483399)))) (.cons (.ret (.o2 .mod (.o2 .mod (.o2 .add (.o2 .mul (.v 3) (.v 3)) (.o2 .fdiv (.v 3) (.k (.int 31)))) (.k (.int 2147483629))) (.v 2))) .nil))
def E_u_law_pick : Env' := mkE [F_u_law_cell] []
theorem E_u_law_pick_F0 : E_u_law_pick.F 0 = F_u_law_cell := rfl
def F_u_law_pick : List D → P := runDef E_u_law_pick 3 4 t_u_law_pick
def t_u_law_places_b1 : T := (.cons .bad .nil)
def t_u_law_places_f1 : T := (.for_ (.n 2) (.it1 .range1 (.o1 .len (.v 0))) t_u_law_places_b1)
def t_u_law_places : T := (.cons (.asg (.n 1) (.mk (.xl (.cons (.tup .nil) .nil)))) (.cons (.iff (.o1 (.isi .tuple) (.v 0)) (.cons t_u_law_places_f1 .nil) .nil) (.cons (.ret (.frz (.v 1))) .nil)))
def E_u_law_places : Env' := mkE [] []
def F_u_law_places : List D → P := runDef E_u_law_places 1 4 t_u_law_places
def t_u_law_put : T := (.cons (.iff (.o2 .eq (.v 1) (.tup .nil)) (.cons (.ret (.v 2)) .nil) .nil) (.cons (.asg (.n 3) (.o2 .idx (.v 1) (.k (.int 0)))) (.cons .bad .nil)))
def E_u_law_put : Env' := mkE [] []
def F_u_law_put : List D → P := runDef E_u_law_put 3 4 t_u_law_put
def t_u_law_spoilt_thing_b1 : T := (.cons (.asg (.n 5) (.o2 .idx (.v 5) (.v 6))) .nil)
def t_u_law_spoilt_thing_f1 : T := (.for_ (.n 6) (.it1 .seq (.v 4)) t_u_law_spoilt_thing_b1)
def t_u_law_spoilt_thing : T := (.cons (.asg (.n 3) (.call 0 (.cons (.v 2) .nil))) (.cons (.asg (.n 4) (.o2 .idx (.v 3) (.call 1 (.cons (.v 0) (.cons (.v 1) (.cons (.o1 .len (.v 3)) .nil)))))) (.cons (.asg (.n 5) (.v 2)) (.cons t_u_law_spoilt_thing_f1 (.cons (.asg (.n 7) (.im (.xl (.cons (.k (.int 0)) (.cons (.k (.int 1)) (.cons (.k (.int 2)) (.cons (.k (.int 3)) (.cons (.k (.int 5)) (.cons (.k (.int 6)) (.cons (.o1 .neg (.k (.int 1))) (.cons (.k (.str "a")) (.cons (.k (.str "")) (.cons (.k (.str "abcdef")) (.cons (.k (.str "abcdefg")) (.cons (.k (.str "A")) (.cons (.k (.bl true)) (.cons (.k .non) (.cons (.tup .nil) (.cons (.im (.xl (.cons (.k (.int 0)) .nil))) .nil))))))))))))))))))) (.cons (.asg (.n 7) (.o2 .add (.v 7) (.im (.xl (.cons (.tup (.cons (.k (.int 0)) (.cons (.k (.str "go")) .nil))) (.cons (.tup (.cons (.v 5) .nil)) (.cons (.tup (.cons (.v 5) (.cons (.v 5) .nil))) .nil))))))) (.cons (.asg (.n 8) (.call 1 (.cons (.v 0) (.cons (.o2 .add (.v 1) (.k (.int 1))) (.cons (.k (.int 25)) .nil))))) (.cons (.iff (.o2 .lt (.v 8) (.k (.int 19))) (.cons (.ret (.call 2 (.cons (.v 2) (.cons (.v 4) (.cons (.o2 .idx (.v 7) (.v 8)) .nil))))) .nil) .nil) (.cons (.iff (.and (.o1 (.isi .tuple) (.v 5)) (.o2 .ne (.v 5) (.tup .nil))) (.cons (.asg (.n 6) (.call 1 (.cons (.v 0) (.cons (.o2 .add (.v 1) (.k (.int 2))) (.cons (.o1 .len (.v 5)) .nil))))) (.cons (.ret (.call 2 (.cons (.v 2) (.cons (.v 4) (.cons (.ite (.o2 .lt (.v 8) (.k (.int 22))) (.o2 .add (.sl (.v 5) .nil (.v 6)) (.sl (.v 5) (.o2 .add (.v 6) (.k (.int 1))) .nil)) (.o2 .add (.sl (.v 5) .nil (.o2 .add (.v 6) (.k (.int 1)))) (.sl (.v 5) (.v 6) .nil))) .nil))))) .nil)) .nil) (.cons (.ret (.call 2 (.cons (.v 2) (.cons (.v 4) (.cons (.ite (.o1 (.isi .int) (.v 5)) (.o2 .sub (.o2 .add (.v 5) (.v 8)) (.k (.int 22))) (.k (.int 7))) .nil))))) .nil))))))))))
def E_u_law_spoilt_thing : Env' := mkE [F_u_law_places, F_u_law_pick, F_u_law_put] []
theorem E_u_law_spoilt_thing_F0 : E_u_law_spoilt_thing.F 0 = F_u_law_places := rfl
theorem E_u_law_spoilt_thing_F1 : E_u_law_spoilt_thing.F 1 = F_u_law_pick := rfl
theorem E_u_law_spoilt_thing_F2 : E_u_law_spoilt_thing.F 2 = F_u_law_put := rfl
def F_u_law_spoilt_thing : List D → P := runDef E_u_law_spoilt_thing 3 9 t_u_law_spoilt_thing
def t_u_law_word : T := (.cons .bad (.cons .bad (.cons .bad (.cons .bad .nil))))
def E_u_law_word : Env' := mkE [] []
def F_u_law_word : List D → P := runDef E_u_law_word 1 2 t_u_law_word
def t_u_law_plan_b1 : T := (.cons (.asg (.n 10) (.o2 .add (.o2 .add (.o2 .add (.v 1) (.k (.int 10))) (.o2 .mul (.k (.int 8)) (.v 5))) (.o2 .mul (.k (.int 2)) (.v 9)))) (.cons (.ex (.app 8 (.tup (.cons (.call 0 (.cons (.v 0) (.cons (.v 10) (.cons (.v 6) .nil)))) (.cons (.o2 .idx (.v 3) (.call 0 (.cons (.v 0) (.cons (.o2 .add (.v 10) (.k (.int 1))) (.cons (.o1 .len (.v 3)) .nil))))) .nil))))) .nil))
def t_u_law_plan_f1 : T := (.for_ (.n 9) (.it1 .range1 (.v 7)) t_u_law_plan_b1)
def t_u_law_plan_b2 : T := (.cons (.asg (.n 8) (.mk (.xl .nil))) (.cons t_u_law_plan_f1 (.cons (.ex (.app 4 (.o1 .tuple (.v 8)))) .nil)))
def t_u_law_plan_f2 : T := (.for_ (.n 5) (.it1 .range1 (.v 6)) t_u_law_plan_b2)
def t_u_law_plan : T := (.cons (.par 6 7 (.o2 .add (.k (.int 1)) (.call 0 (.cons (.v 0) (.cons (.v 1) (.cons (.v 2) .nil))))) (.o2 .add (.k (.int 1)) (.call 0 (.cons (.v 0) (.cons (.o2 .add (.v 1) (.k (.int 1))) (.cons (.k (.int 3)) .nil)))))) (.cons (.asg (.n 3) (.o2 .idx (.im (.xl (.cons (.im (.xl (.cons (.k (.str "lap")) (.cons (.k (.str "")) .nil)))) (.cons (.im (.xl (.cons (.k (.str "go")) (.cons (.k (.str "")) (.cons (.k (.str "set")) .nil))))) (.cons (.im (.xl (.cons (.k (.str "x")) (.cons (.k (.str "lamp")) (.cons (.k (.str "go")) (.cons (.k (.str "")) (.cons (.k (.str "abcdef")) .nil))))))) .nil))))) (.call 0 (.cons (.v 0) (.cons (.o2 .add (.v 1) (.k (.int 2))) (.cons (.k (.int 3)) .nil)))))) (.cons (.asg (.n 4) (.mk (.xl .nil))) (.cons t_u_law_plan_f2 (.cons (.ret (.o1 .tuple (.v 4))) .nil)))))
def E_u_law_plan : Env' := mkE [F_u_law_pick] []
theorem E_u_law_plan_F0 : E_u_law_plan.F 0 = F_u_law_pick := rfl
def F_u_law_plan : List D → P := runDef E_u_law_plan 3 11 t_u_law_plan
def t_u_law_row_x1 : T := (.xc [4] (.n 4) (.it1 .range1 (.call 0 (.cons (.v 0) (.cons (.v 1) (.cons (.o2 .add (.v 3) (.k (.int 1))) .nil))))) .nil (.call 0 (.cons (.v 0) (.cons (.o2 .add (.o2 .add (.v 1) (.k (.int 1))) (.v 4)) (.cons (.o1 .len (.o2 .idx (.v 2) (.k (.int 0)))) .nil)))))
def t_u_law_row : T := (.cons (.ret (.im t_u_law_row_x1)) .nil)
def E_u_law_row : Env' := mkE [F_u_law_pick] []
theorem E_u_law_row_F0 : E_u_law_row.F 0 = F_u_law_pick := rfl
def F_u_law_row : List D → P := runDef E_u_law_row 4 5 t_u_law_row
def t_u_law_walk_b1 : T := (.cons (.ex (.app 5 (.o2 .idx (.o2 .idx (.o2 .idx (.v 0) (.o2 .idx (.v 4) (.o1 .neg (.k (.int 1))))) (.v 3)) (.k (.int 1))))) (.cons (.ex (.app 4 (.o2 .idx (.o2 .idx (.o2 .idx (.v 0) (.o2 .idx (.v 4) (.o1 .neg (.k (.int 1))))) (.v 3)) (.k (.int 0))))) .nil))
def t_u_law_walk_f1 : T := (.for_ (.n 3) (.it1 .seq (.v 2)) t_u_law_walk_b1)
def t_u_law_walk : T := (.cons (.par 4 5 (.mk (.xl (.cons (.v 1) .nil))) (.mk (.xl .nil))) (.cons t_u_law_walk_f1 (.cons (.ret (.tup (.cons (.frz (.v 4)) (.cons (.frz (.v 5)) .nil)))) .nil)))
def E_u_law_walk : Env' := mkE [] []
def F_u_law_walk : List D → P := runDef E_u_law_walk 3 6 t_u_law_walk
def t_u_law_is_plan_x1 : T := (.xc [3] (.n 3) (.it1 .seq (.o2 .idx (.v 2) (.k (.int 1)))) (.not (.ch .le .le (.k (.str "a")) (.v 3) (.k (.str "z")))) (.v 3))
def t_u_law_is_plan_b1 : T := (.cons (.iff (.or (.not (.o1 (.isi .tuple) (.v 2))) (.or (.o2 .ne (.o1 .len (.v 2)) (.k (.int 2))) (.or (.not (.o1 (.isi .str) (.o2 .idx (.v 2) (.k (.int 1))))) (.o2 .gt (.o1 .len (.o2 .idx (.v 2) (.k (.int 1)))) (.k (.int 6)))))) (.cons (.ret (.k (.bl false))) .nil) .nil) (.cons (.iff (.or (.not (.o1 (.isi .int) (.o2 .idx (.v 2) (.k (.int 0))))) (.or (.o1 (.isi .bool) (.o2 .idx (.v 2) (.k (.int 0)))) (.not (.ch .le .lt (.k (.int 0)) (.o2 .idx (.v 2) (.k (.int 0))) (.o1 .len (.v 0)))))) (.cons (.ret (.k (.bl false))) .nil) .nil) (.cons (.iff (.o2 .ne (.im t_u_law_is_plan_x1) (.im (.xl .nil))) (.cons (.ret (.k (.bl false))) .nil) .nil) .nil)))
def t_u_law_is_plan_f1 : T := (.for_ (.n 2) (.it1 .seq (.v 1)) t_u_law_is_plan_b1)
def t_u_law_is_plan_b2 : T := (.cons (.iff (.or (.not (.o1 (.isi .tuple) (.v 1))) (.or (.not (.ch .le .le (.k (.int 1)) (.o1 .len (.v 1)) (.k (.int 3)))) (.o2 .ne (.o1 .len (.v 1)) (.o1 .len (.o2 .idx (.v 0) (.k (.int 0))))))) (.cons (.ret (.k (.bl false))) .nil) .nil) (.cons t_u_law_is_plan_f1 .nil))
def t_u_law_is_plan_f2 : T := (.for_ (.n 1) (.it1 .seq (.v 0)) t_u_law_is_plan_b2)
def t_u_law_is_plan : T := (.cons (.iff (.or (.not (.o1 (.isi .tuple) (.v 0))) (.not (.ch .le .le (.k (.int 1)) (.o1 .len (.v 0)) (.k (.int 6))))) (.cons (.ret (.k (.bl false))) .nil) .nil) (.cons t_u_law_is_plan_f2 (.cons (.ret (.k (.bl true))) .nil)))
def E_u_law_is_plan : Env' := mkE [] []
def F_u_law_is_plan : List D → P := runDef E_u_law_is_plan 1 4 t_u_law_is_plan
def t_u_law_rows_b1 : T := (.cons (.asg (.n 7) (.o2 .idx (.o2 .idx (.o2 .idx (.v 0) (.v 4)) (.v 5)) (.k (.int 0)))) (.cons (.iff (.o2 .nisN (.o2 .idx (.v 2) (.v 4)) (.k .non)) (.cons (.asg (.n 8) (.tup (.cons (.o2 .add (.o2 .idx (.o2 .idx (.v 2) (.v 4)) (.k (.int 0))) (.k (.int 1))) (.cons (.o2 .add (.o2 .idx (.o2 .idx (.v 2) (.v 4)) (.k (.int 1))) (.im (.xl (.cons (.v 5) .nil)))) .nil)))) (.cons .bad .nil)) .nil) .nil))
def t_u_law_rows_f1 : T := (.for_ (.n 5) (.it1 .range1 (.o1 .len (.o2 .idx (.v 0) (.k (.int 0))))) t_u_law_rows_b1)
def t_u_law_rows_b2 : T := (.cons t_u_law_rows_f1 .nil)
def t_u_law_rows_f2 : T := (.for_ (.n 4) (.it1 .range1 (.o1 .len (.v 0))) t_u_law_rows_b2)
def t_u_law_rows_b3 : T := (.cons t_u_law_rows_f2 .nil)
def t_u_law_rows_f3 : T := (.for_ (.n 3) (.it1 .range1 (.o1 .len (.v 0))) t_u_law_rows_b3)
def t_u_law_rows_x1 : T := (.xc [6] (.n 6) (.it1 .seq (.frz (.v 2))) .nil (.ite (.o2 .nisN (.v 6) (.k .non)) (.o2 .idx (.v 6) (.k (.int 1))) (.k .non)))
def t_u_law_rows : T := (.cons (.asg (.n 2) (.o2 .mul (.im (.xl (.cons (.k .non) .nil))) (.o1 .len (.v 0)))) (.cons .bad (.cons t_u_law_rows_f3 (.cons (.ret (.im t_u_law_rows_x1)) .nil))))
def E_u_law_rows : Env' := mkE [] []
def F_u_law_rows : List D → P := runDef E_u_law_rows 2 9 t_u_law_rows
def t_u_law_parting_b1 : T := (.cons (.iff (.o2 .ne (.o2 .idx (.o2 .idx (.o2 .idx (.v 0) (.v 7)) (.v 6)) (.k (.int 1))) (.o2 .idx (.o2 .idx (.o2 .idx (.v 1) (.v 8)) (.v 6)) (.k (.int 1)))) (.cons (.ret (.o2 .add (.v 5) (.im (.xl (.cons (.v 6) .nil))))) .nil) .nil) .nil)
def t_u_law_parting_f1 : T := (.for_ (.n 6) (.it1 .range1 (.o1 .len (.o2 .idx (.v 0) (.k (.int 0))))) t_u_law_parting_b1)
def t_u_law_parting_b2 : T := (.cons t_u_law_parting_f1 .nil)
def t_u_law_parting_f2 : T := (.for_ (.t (.cons (.t (.cons (.n 7) (.cons (.n 8) .nil))) (.cons (.n 5) .nil))) (.it1 .seq (.v 3)) t_u_law_parting_b2)
def t_u_law_parting_b3 : T := (.cons (.asg (.n 9) (.tup (.cons (.o2 .idx (.o2 .idx (.o2 .idx (.v 0) (.v 7)) (.v 6)) (.k (.int 0))) (.cons (.o2 .idx (.o2 .idx (.o2 .idx (.v 1) (.v 8)) (.v 6)) (.k (.int 0))) .nil)))) (.cons (.iff (.o2 .ninL (.v 9) (.v 2)) (.cons .bad (.cons (.ex (.app 4 (.tup (.cons (.v 9) (.cons (.o2 .add (.v 5) (.im (.xl (.cons (.v 6) .nil)))) .nil))))) .nil)) .nil) .nil))
def t_u_law_parting_f3 : T := (.for_ (.n 6) (.it1 .range1 (.o1 .len (.o2 .idx (.v 0) (.k (.int 0))))) t_u_law_parting_b3)
def t_u_law_parting_b4 : T := (.cons t_u_law_parting_f3 .nil)
def t_u_law_parting_f4 : T := (.for_ (.t (.cons (.t (.cons (.n 7) (.cons (.n 8) .nil))) (.cons (.n 5) .nil))) (.it1 .seq (.v 3)) t_u_law_parting_b4)
def t_u_law_parting_b5 : T := (.cons (.asg (.n 4) (.mk (.xl .nil))) (.cons t_u_law_parting_f2 (.cons t_u_law_parting_f4 (.cons (.asg (.n 3) (.frz (.v 4))) .nil))))
def t_u_law_parting_w1 : T := (.whl (.o2 .ne (.v 3) (.im (.xl .nil))) t_u_law_parting_b5)
def t_u_law_parting : T := (.cons (.par 2 3 (.imd true (.tup (.cons (.k (.int 0)) (.cons (.k (.int 0)) .nil))) (.k (.bl true))) (.im (.xl (.cons (.tup (.cons (.tup (.cons (.k (.int 0)) (.cons (.k (.int 0)) .nil))) (.cons (.im (.xl .nil)) .nil))) .nil)))) (.cons t_u_law_parting_w1 (.cons (.ret (.k .non)) .nil)))
def E_u_law_parting : Env' := mkE [] []
def F_u_law_parting : List D → P := runDef E_u_law_parting 2 10 t_u_law_parting
def t_u_law_shuffled_b1 : T := (.cons .bad .nil)
def t_u_law_shuffled_w1 : T := (.whl (.o2 .ne (.v 3) (.im (.xl .nil))) t_u_law_shuffled_b1)
def t_u_law_shuffled : T := (.cons .bad (.cons t_u_law_shuffled_w1 (.cons .bad .nil)))
def E_u_law_shuffled : Env' := mkE [] []
def F_u_law_shuffled : List D → P := runDef E_u_law_shuffled 3 8 t_u_law_shuffled
def t_u_law_doubled_b1 : T := (.cons (.asg (.n 8) (.and (.o2 .eq (.v 9) (.v 4)) (.o2 .eq (.call 0 (.cons (.v 0) (.cons (.o2 .add (.o2 .add (.o2 .add (.v 1) (.k (.int 1))) (.o2 .mul (.k (.int 4)) (.o1 .len (.v 5)))) (.v 7)) (.cons (.k (.int 2)) .nil)))) (.k (.int 0))))) (.cons (.ex (.app 6 (.tup (.cons (.ite (.v 8) (.o1 .len (.v 2)) (.v 9)) (.cons (.v 10) .nil))))) .nil))
def t_u_law_doubled_f1 : T := (.for_ (.t (.cons (.n 7) (.cons (.t (.cons (.n 9) (.cons (.n 10) .nil))) .nil))) (.it1 .enum (.o2 .idx (.v 2) (.v 3))) t_u_law_doubled_b1)
def t_u_law_doubled_b2 : T := (.cons (.asg (.n 6) (.mk (.xl .nil))) (.cons t_u_law_doubled_f1 (.cons (.ex (.app 5 (.o1 .tuple (.v 6)))) .nil)))
def t_u_law_doubled_f2 : T := (.for_ (.n 3) (.it1 .seq (.o2 .add (.im (.x1 .listRange (.o1 .len (.v 2)))) (.im (.xl (.cons (.v 4) .nil))))) t_u_law_doubled_b2)
def t_u_law_doubled : T := (.cons (.par 4 5 (.call 0 (.cons (.v 0) (.cons (.v 1) (.cons (.o1 .len (.v 2)) .nil)))) (.mk (.xl .nil))) (.cons t_u_law_doubled_f2 (.cons (.ret (.o1 .tuple (.v 5))) .nil)))
def E_u_law_doubled : Env' := mkE [F_u_law_pick] []
theorem E_u_law_doubled_F0 : E_u_law_doubled.F 0 = F_u_law_pick := rfl
def F_u_law_doubled : List D → P := runDef E_u_law_doubled 3 11 t_u_law_doubled
def t_u_law_is_least_x1 : T := (.xc [4] (.n 4) (.it1 .seq (.call 0 (.cons (.v 0) (.cons (.k (.int 0)) .nil)))) .nil (.ite (.o2 .nisN (.v 4) (.k .non)) (.tup (.cons (.o1 .len (.v 4)) (.cons (.v 4) .nil))) (.tup (.cons (.k (.int 99)) (.cons (.im (.xl .nil)) .nil)))))
def t_u_law_is_least_x2 : T := (.xc [8] (.n 8) (.it1 .range1 (.o1 .len (.v 0))) (.o2 .ne (.v 8) (.v 2)) (.v 8))
def t_u_law_is_least_x3 : T := (.xc [8] (.n 8) (.it1 .range1 (.o1 .len (.v 0))) (.o2 .ne (.v 8) (.v 3)) (.v 8))
def t_u_law_is_least_b1 : T := (.cons (.asg (.n 5) (.o2 .add (.im (.xl (.cons (.v 2) .nil))) (.im t_u_law_is_least_x2))) (.cons .bad (.cons (.asg (.n 5) (.o2 .add (.im (.xl (.cons (.v 3) .nil))) (.im t_u_law_is_least_x3))) (.cons .bad (.cons (.iff (.o2 .isN (.call 1 (.cons (.v 6) (.cons (.v 7) .nil))) (.k .non)) (.cons (.ret (.k (.bl false))) .nil) .nil) .nil)))))
def t_u_law_is_least_f1 : T := (.for_ (.n 3) (.it1 .range1 (.v 2)) t_u_law_is_least_b1)
def t_u_law_is_least_b2 : T := (.cons t_u_law_is_least_f1 .nil)
def t_u_law_is_least_f2 : T := (.for_ (.n 2) (.it1 .range1 (.o1 .len (.v 0))) t_u_law_is_least_b2)
def t_u_law_is_least : T := (.cons (.asg (.n 1) (.im t_u_law_is_least_x1)) (.cons (.iff (.or (.o2 .ne (.v 1) (.im (.x1 .sortedI (.v 1)))) (.o2 .gt (.o2 .idx (.o2 .idx (.v 1) (.o1 .neg (.k (.int 1)))) (.k (.int 0))) (.o1 .len (.v 0)))) (.cons (.ret (.k (.bl false))) .nil) .nil) (.cons t_u_law_is_least_f2 (.cons (.ret (.k (.bl true))) .nil))))
def E_u_law_is_least : Env' := mkE [F_u_law_rows, F_u_law_parting] []
theorem E_u_law_is_least_F0 : E_u_law_is_least.F 0 = F_u_law_rows := rfl
theorem E_u_law_is_least_F1 : E_u_law_is_least.F 1 = F_u_law_parting := rfl
def F_u_law_is_least : List D → P := runDef E_u_law_is_least 1 11 t_u_law_is_least
def t_u_law_are_buttons_turned_x1 : T := (.xc [7] (.n 7) (.it1 .seq (.v 5)) .nil (.o2 .idx (.v 6) (.v 7)))
def t_u_law_are_buttons_turned_x2 : T := (.xc [6] (.n 6) (.it1 .seq (.v 1)) .nil (.o1 .tuple (.im t_u_law_are_buttons_turned_x1)))
def t_u_law_are_buttons_turned : T := (.cons .bad (.cons .bad (.cons .bad (.cons (.asg (.n 4) (.call 0 (.cons (.v 0) (.cons (.k (.int 204)) (.cons (.o1 .len (.v 2)) .nil))))) (.cons .bad (.cons (.iff (.o2 .ne (.call 1 (.cons (.v 1) (.cons (.v 5) .nil))) (.o1 .tuple (.im t_u_law_are_buttons_turned_x2))) (.cons (.ret (.k (.bl false))) .nil) .nil) (.cons (.ret (.k (.bl true))) .nil)))))))
def E_u_law_are_buttons_turned : Env' := mkE [F_u_law_pick, F_with_buttons] []
theorem E_u_law_are_buttons_turned_F0 : E_u_law_are_buttons_turned.F 0 = F_u_law_pick := rfl
theorem E_u_law_are_buttons_turned_F1 : E_u_law_are_buttons_turned.F 1 = F_with_buttons := rfl
def F_u_law_are_buttons_turned : List D → P := runDef E_u_law_are_buttons_turned 2 8 t_u_law_are_buttons_turned
def t_look_buttons : T := (.cons (.iff (.not (.call 0 (.cons (.v 0) (.cons (.k (.int 1)) (.cons (.g 0) .nil))))) (.cons (.rse 3) .nil) .nil) .nil)
def E_look_buttons : Env' := mkE [F_is_whole] [.int 3]
theorem E_look_buttons_F0 : E_look_buttons.F 0 = F_is_whole := rfl
theorem E_look_buttons_G0 : E_look_buttons.G 0 = .int 3 := rfl
def F_look_buttons : List D → P := runDef E_look_buttons 1 1 t_look_buttons
def t_are_tells : T := (.cons (.ex (.call 0 (.cons (.v 0) .nil))) (.cons (.ret (.call 1 (.cons (.v 0) (.cons (.v 1) .nil)))) .nil))
def E_are_tells : Env' := mkE [F_look_buttons, F_are_tells_for] []
theorem E_are_tells_F0 : E_are_tells.F 0 = F_look_buttons := rfl
theorem E_are_tells_F1 : E_are_tells.F 1 = F_are_tells_for := rfl
def F_are_tells : List D → P := runDef E_are_tells 2 2 t_are_tells
def t_filled_b1 : T := (.cons .bad (.cons .bad (.cons .bad (.cons (.iff (.o2 .nisN (.v 12) (.k .non)) (.cons (.ret (.v 12)) .nil) .nil) .nil))))
def t_filled_f1 : T := (.for_ (.n 7) (.it1 .seq (.v 6)) t_filled_b1)
def t_filled : T := (.cons (.iff (.o2 .eq (.v 3) (.im (.xl .nil))) (.cons (.ret (.v 0)) .nil) .nil) (.cons (.asg (.t (.cons (.n 8) (.cons (.n 9) (.cons (.n 10) .nil)))) (.o2 .idx (.v 3) (.k (.int 0)))) (.cons (.asg (.n 4) (.tup (.cons (.v 2) (.cons (.v 8) .nil)))) (.cons .bad (.cons .bad (.cons (.iff (.and (.o2 .inL (.v 4) (.v 0)) (.o2 .ne (.o2 .idx (.o2 .idx (.v 0) (.v 4)) (.k (.int 1))) (.v 9))) (.cons (.ret (.k .non)) .nil) .nil) (.cons t_filled_f1 (.cons (.ret (.k .non)) .nil))))))))
def E_filled : Env' := mkE [] []
def F_filled : List D → P := runDef E_filled 4 14 t_filled
def t_all_steps_b1 : T := (.cons (.ex (.app 1 (.tup (.cons (.o2 .idx (.v 2) (.v 4)) (.cons (.o2 .idx (.v 3) (.v 4)) (.cons (.o2 .eq (.v 4) (.o2 .sub (.o1 .len (.v 2)) (.k (.int 1)))) .nil)))))) .nil)
def t_all_steps_f1 : T := (.for_ (.n 4) (.it1 .range1 (.o1 .len (.v 2))) t_all_steps_b1)
def t_all_steps_b2 : T := (.cons t_all_steps_f1 .nil)
def t_all_steps_f2 : T := (.for_ (.t (.cons (.n 2) (.cons (.n 3) .nil))) (.it1 .seq (.v 0)) t_all_steps_b2)
def t_all_steps : T := (.cons (.asg (.n 1) (.mk (.xl .nil))) (.cons t_all_steps_f2 (.cons (.ret (.frz (.v 1))) .nil)))
def E_all_steps : Env' := mkE [] []
def F_all_steps : List D → P := runDef E_all_steps 1 5 t_all_steps
def t_plan_of_x1 : T := (.xc [6] (.n 6) (.it1 .range1 (.v 0)) .nil (.dget (.v 3) (.tup (.cons (.v 5) (.cons (.v 6) .nil))) (.tup (.cons (.k (.int 0)) (.cons (.k (.str "")) .nil)))))
def t_plan_of_x2 : T := (.xc [5] (.n 5) (.it1 .range1 (.v 2)) .nil (.im t_plan_of_x1))
def t_plan_of_x3 : T := (.xc [7] (.n 7) (.it1 .seq (.v 4)) .nil (.o1 .tuple (.v 7)))
def t_plan_of_b1 : T := (.cons .bad (.cons (.iff (.o2 .nisN (.v 3) (.k .non)) (.cons (.asg (.n 4) (.im t_plan_of_x2)) (.cons (.ret (.o1 .tuple (.im t_plan_of_x3))) .nil)) .nil) .nil))
def t_plan_of_f1 : T := (.for_ (.n 2) (.it2 .range2 (.k (.int 1)) (.o2 .add (.g 0) (.k (.int 1)))) t_plan_of_b1)
def t_plan_of : T := (.cons t_plan_of_f1 (.cons (.ret (.k .non)) .nil))
def E_plan_of : Env' := mkE [] [.int 3]
theorem E_plan_of_G0 : E_plan_of.G 0 = .int 3 := rfl
def F_plan_of : List D → P := runDef E_plan_of 2 8 t_plan_of
def t_fewest_modes : T := (.cons .bad (.cons (.ret (.ite (.o2 .nisN (.v 2) (.k .non)) (.o1 .len (.v 2)) (.k .non))) .nil))
def E_fewest_modes : Env' := mkE [] []
def F_fewest_modes : List D → P := runDef E_fewest_modes 2 3 t_fewest_modes
def t_are_apart : T := (.cons (.asg (.n 2) (.k (.int 0))) (.cons .bad (.cons (.ret (.o2 .ne (.sl (.o2 .idx (.v 0) (.k (.int 1))) .nil (.v 2)) (.sl (.o2 .idx (.v 1) (.k (.int 1))) .nil (.v 2)))) .nil)))
def E_are_apart : Env' := mkE [] []
def F_are_apart : List D → P := runDef E_are_apart 2 3 t_are_apart
def t_clash_b1 : T := (.cons (.iff (.call 1 (.cons (.v 2) (.cons (.o2 .idx (.v 0) (.v 3)) .nil))) (.cons (.ret (.tup (.cons (.v 1) (.cons (.v 3) .nil)))) .nil) .nil) .nil)
def t_clash_f1 : T := (.for_ (.n 3) (.it2 .range2 (.o2 .add (.v 1) (.k (.int 1))) (.o1 .len (.v 0))) t_clash_b1)
def t_clash_b2 : T := (.cons t_clash_f1 .nil)
def t_clash_f2 : T := (.for_ (.t (.cons (.n 1) (.cons (.n 2) .nil))) (.it1 .enum (.v 0)) t_clash_b2)
def t_clash : T := (.cons (.ex (.call 0 (.cons (.g 0) (.cons (.v 0) .nil)))) (.cons t_clash_f2 (.cons (.ret (.k .non)) .nil)))
def E_clash : Env' := mkE [F_look_tells, F_are_apart] [.int 3]
theorem E_clash_F0 : E_clash.F 0 = F_look_tells := rfl
theorem E_clash_F1 : E_clash.F 1 = F_are_apart := rfl
theorem E_clash_G0 : E_clash.G 0 = .int 3 := rfl
def F_clash : List D → P := runDef E_clash 1 4 t_clash
def t_u_law_are_tells_x1 : T := (.xc [4] (.n 4) (.it1 .seq (.o2 .idx (.v 2) (.k (.int 0)))) (.or (.not (.o1 (.isi .int) (.v 4))) (.or (.o1 (.isi .bool) (.v 4)) (.not (.ch .le .lt (.k (.int 0)) (.v 4) (.v 0))))) (.v 4))
def t_u_law_are_tells_x2 : T := (.xc [5] (.n 5) (.it1 .seq (.v 3)) (.not (.ch .le .le (.k (.str "a")) (.v 5) (.k (.str "z")))) (.v 5))
def t_u_law_are_tells_b1 : T := (.cons (.iff (.or (.not (.o1 (.isi .str) (.v 3))) (.or (.o2 .gt (.o1 .len (.v 3)) (.k (.int 6))) (.o2 .ne (.im t_u_law_are_tells_x2) (.im (.xl .nil))))) (.cons (.ret (.k (.bl false))) .nil) .nil) .nil)
def t_u_law_are_tells_f1 : T := (.for_ (.n 3) (.it1 .seq (.o2 .idx (.v 2) (.k (.int 1)))) t_u_law_are_tells_b1)
def t_u_law_are_tells_b2 : T := (.cons (.iff (.or (.not (.o1 (.isi .tuple) (.v 2))) (.o2 .ne (.o1 .len (.v 2)) (.k (.int 2)))) (.cons (.ret (.k (.bl false))) .nil) .nil) (.cons (.iff (.or (.not (.o1 (.isi .tuple) (.o2 .idx (.v 2) (.k (.int 0))))) (.not (.o1 (.isi .tuple) (.o2 .idx (.v 2) (.k (.int 1)))))) (.cons (.ret (.k (.bl false))) .nil) .nil) (.cons (.iff (.or (.not (.ch .le .le (.k (.int 1)) (.o1 .len (.o2 .idx (.v 2) (.k (.int 0)))) (.k (.int 6)))) (.o2 .ne (.o1 .len (.o2 .idx (.v 2) (.k (.int 1)))) (.o1 .len (.o2 .idx (.v 2) (.k (.int 0)))))) (.cons (.ret (.k (.bl false))) .nil) .nil) (.cons (.iff (.o2 .ne (.im t_u_law_are_tells_x1) (.im (.xl .nil))) (.cons (.ret (.k (.bl false))) .nil) .nil) (.cons t_u_law_are_tells_f1 .nil)))))
def t_u_law_are_tells_f2 : T := (.for_ (.n 2) (.it1 .seq (.v 1)) t_u_law_are_tells_b2)
def t_u_law_are_tells : T := (.cons (.iff (.or (.not (.o1 (.isi .tuple) (.v 1))) (.not (.ch .le .le (.k (.int 1)) (.o1 .len (.v 1)) (.k (.int 4))))) (.cons (.ret (.k (.bl false))) .nil) .nil) (.cons t_u_law_are_tells_f2 (.cons (.ret (.k (.bl true))) .nil)))
def E_u_law_are_tells : Env' := mkE [] []
def F_u_law_are_tells : List D → P := runDef E_u_law_are_tells 2 6 t_u_law_are_tells
def t_u_law_fits_x1 : T := (.xc [2, 3] (.t (.cons (.n 2) (.cons (.n 3) .nil))) (.it1 .seq (.v 1)) (.o2 .ne (.o2 .idx (.call 0 (.cons (.v 0) (.cons (.k (.int 0)) (.cons (.v 2) .nil)))) (.k (.int 1))) (.im (.x1 .list (.v 3)))) (.k (.int 1)))
def t_u_law_fits : T := (.cons (.ret (.o2 .eq (.im t_u_law_fits_x1) (.im (.xl .nil)))) .nil)
def E_u_law_fits : Env' := mkE [F_u_law_walk] []
theorem E_u_law_fits_F0 : E_u_law_fits.F 0 = F_u_law_walk := rfl
def F_u_law_fits : List D → P := runDef E_u_law_fits 2 4 t_u_law_fits
def t_u_law_goes_b1 : T := (.cons (.iff (.o2 .ne (.dget (.v 3) (.tup (.cons (.v 6) (.cons (.v 7) .nil))) (.v 8)) (.v 8)) (.cons (.ret (.k (.bl false))) .nil) .nil) (.cons (.put 3 (.tup (.cons (.v 6) (.cons (.v 7) .nil))) (.v 8)) (.cons (.asg (.n 6) (.o2 .idx (.v 2) (.o2 .add (.o2 .mul (.v 6) (.v 0)) (.v 7)))) .nil)))
def t_u_law_goes_f1 : T := (.for_ (.t (.cons (.n 7) (.cons (.n 8) .nil))) (.it2 .zip (.v 4) (.v 5)) t_u_law_goes_b1)
def t_u_law_goes_b2 : T := (.cons (.asg (.n 6) (.k (.int 0))) (.cons t_u_law_goes_f1 .nil))
def t_u_law_goes_f2 : T := (.for_ (.t (.cons (.n 4) (.cons (.n 5) .nil))) (.it1 .seq (.v 1)) t_u_law_goes_b2)
def t_u_law_goes : T := (.cons (.asg (.n 3) (.mkd true .nil)) (.cons t_u_law_goes_f2 (.cons (.ret (.k (.bl true))) .nil)))
def E_u_law_goes : Env' := mkE [] []
def F_u_law_goes : List D → P := runDef E_u_law_goes 3 9 t_u_law_goes
def t_u_law_can_b1 : T := (.cons .bad (.cons (.asg (.n 4) (.o2 .add (.v 4) (.k (.int 1)))) .nil))
def t_u_law_can_w1 : T := (.whl (.and (.o2 .lt (.v 4) (.o1 .len (.v 3))) (.o2 .eq (.o2 .idx (.v 3) (.v 4)) (.o2 .sub (.v 2) (.k (.int 1))))) t_u_law_can_b1)
def t_u_law_can_b2 : T := (.cons (.asg (.n 4) (.k (.int 0))) (.cons t_u_law_can_w1 (.cons (.iff (.o2 .eq (.v 4) (.o1 .len (.v 3))) (.cons (.ret (.k (.bl false))) .nil) .nil) (.cons .bad .nil))))
def t_u_law_can_w2 : T := (.whl (.not (.call 0 (.cons (.v 0) (.cons (.v 1) (.cons (.frz (.v 3)) .nil))))) t_u_law_can_b2)
def t_u_law_can : T := (.cons (.asg (.n 3) (.o2 .mul (.im (.xl (.cons (.k (.int 0)) .nil))) (.o2 .mul (.v 2) (.v 0)))) (.cons t_u_law_can_w2 (.cons (.ret (.k (.bl true))) .nil)))
def E_u_law_can : Env' := mkE [F_u_law_goes] []
theorem E_u_law_can_F0 : E_u_law_can.F 0 = F_u_law_goes := rfl
def F_u_law_can : List D → P := runDef E_u_law_can 3 5 t_u_law_can
def t_u_law_is_fewest_b1 : T := (.cons (.iff (.call 0 (.cons (.v 0) (.cons (.v 1) (.cons (.v 3) .nil)))) (.cons (.ret (.o2 .eq (.v 2) (.v 3))) .nil) .nil) .nil)
def t_u_law_is_fewest_f1 : T := (.for_ (.n 3) (.it2 .range2 (.k (.int 1)) (.ite (.o2 .gt (.v 0) (.k (.int 2))) (.k (.int 3)) (.k (.int 4)))) t_u_law_is_fewest_b1)
def t_u_law_is_fewest : T := (.cons t_u_law_is_fewest_f1 (.cons (.ret (.or (.o2 .isN (.v 2) (.k .non)) (.and (.o2 .eq (.v 2) (.k (.int 3))) (.o2 .gt (.v 0) (.k (.int 2)))))) .nil))
def E_u_law_is_fewest : Env' := mkE [F_u_law_can] []
theorem E_u_law_is_fewest_F0 : E_u_law_is_fewest.F 0 = F_u_law_can := rfl
def F_u_law_is_fewest : List D → P := runDef E_u_law_is_fewest 3 4 t_u_law_is_fewest
def t_u_law_clash_b1 : T := (.cons (.par 4 5 (.sl (.o2 .idx (.o2 .idx (.v 0) (.v 1)) (.k (.int 0))) .nil (.v 3)) (.sl (.o2 .idx (.o2 .idx (.v 0) (.v 2)) (.k (.int 0))) .nil (.v 3))) (.cons (.iff (.and (.o2 .eq (.v 4) (.v 5)) (.and (.o2 .eq (.o1 .len (.v 4)) (.v 3)) (.o2 .ne (.o2 .idx (.o2 .idx (.o2 .idx (.v 0) (.v 1)) (.k (.int 1))) (.o2 .sub (.v 3) (.k (.int 1)))) (.o2 .idx (.o2 .idx (.o2 .idx (.v 0) (.v 2)) (.k (.int 1))) (.o2 .sub (.v 3) (.k (.int 1))))))) (.cons (.ret (.tup (.cons (.v 1) (.cons (.v 2) .nil)))) .nil) .nil) .nil))
def t_u_law_clash_f1 : T := (.for_ (.n 3) (.it2 .range2 (.k (.int 1)) (.k (.int 7))) t_u_law_clash_b1)
def t_u_law_clash_b2 : T := (.cons t_u_law_clash_f1 .nil)
def t_u_law_clash_f2 : T := (.for_ (.n 2) (.it2 .range2 (.o2 .add (.v 1) (.k (.int 1))) (.o1 .len (.v 0))) t_u_law_clash_b2)
def t_u_law_clash_b3 : T := (.cons t_u_law_clash_f2 .nil)
def t_u_law_clash_f3 : T := (.for_ (.n 1) (.it1 .range1 (.o1 .len (.v 0))) t_u_law_clash_b3)
def t_u_law_clash : T := (.cons t_u_law_clash_f3 (.cons (.ret (.k .non)) .nil))
def E_u_law_clash : Env' := mkE [] []
def F_u_law_clash : List D → P := runDef E_u_law_clash 1 6 t_u_law_clash
def t_u_law_are_told_apart_b1 : T := (.cons (.asg (.n 5) (.call 0 (.cons (.v 0) (.cons (.o2 .add (.k (.int 200)) (.o2 .mul (.k (.int 10)) (.v 4))) (.cons (.v 3) .nil))))) (.cons (.asg (.n 6) (.call 1 (.cons (.v 2) (.cons (.v 5) .nil)))) (.cons (.iff (.or (.o2 .ne (.v 6) (.call 2 (.cons (.v 2) (.cons (.v 5) .nil)))) (.not (.o1 (.isi .bool) (.v 6)))) (.cons (.ret (.k (.bl false))) .nil) .nil) (.cons .bad (.cons (.iff (.and (.not (.v 6)) (.o2 .ne (.v 7) (.o2 .mul (.im (.xl (.cons (.k (.str "no tells")) .nil))) (.k (.int 3))))) (.cons (.ret (.k (.bl false))) .nil) .nil) (.cons .bad .nil))))))
def t_u_law_are_told_apart_f1 : T := (.for_ (.n 4) (.it1 .range1 (.k (.int 8))) t_u_law_are_told_apart_b1)
def t_u_law_are_told_apart : T := (.cons t_u_law_are_told_apart_f1 (.cons (.ret (.k (.bl true))) .nil))
def E_u_law_are_told_apart : Env' := mkE [F_u_law_spoilt_thing, F_are_tells, F_u_law_are_tells] []
theorem E_u_law_are_told_apart_F0 : E_u_law_are_told_apart.F 0 = F_u_law_spoilt_thing := rfl
theorem E_u_law_are_told_apart_F1 : E_u_law_are_told_apart.F 1 = F_are_tells := rfl
theorem E_u_law_are_told_apart_F2 : E_u_law_are_told_apart.F 2 = F_u_law_are_tells := rfl
def F_u_law_are_told_apart : List D → P := runDef E_u_law_are_told_apart 4 9 t_u_law_are_told_apart
def t_u_law_are_bounds_right_x1 : T := (.xc [3, 4] (.t (.cons (.n 3) (.cons (.n 4) .nil))) (.it1 .seq (.v 0)) .nil (.call 0 (.cons (.k (.int 1)) (.cons (.o2 .mul (.tup (.cons (.tup (.cons (.o2 .mul (.tup (.cons (.k (.int 0)) .nil)) (.v 3)) (.cons (.o2 .mul (.tup (.cons (.k (.str "")) .nil)) (.v 3)) .nil))) .nil)) (.v 4)) .nil))))
def t_u_law_are_bounds_right_x2 : T := (.xc [3] (.n 3) (.it2 .range2 (.k (.int 1)) (.k (.int 7))) .nil (.call 1 (.cons (.k (.int 1)) (.cons (.tup (.cons (.tup (.cons (.o2 .mul (.tup (.cons (.k (.int 0)) .nil)) (.v 3)) (.cons (.o1 .tuple (.sl (.k (.str "abcdef")) .nil (.v 3))) .nil))) .nil)) .nil))))
def t_u_law_are_bounds_right : T := (.cons (.asg (.n 0) (.im (.xl (.cons (.tup (.cons (.k (.int 1)) (.cons (.k (.int 4)) .nil))) (.cons (.tup (.cons (.k (.int 1)) (.cons (.k (.int 5)) .nil))) (.cons (.tup (.cons (.k (.int 6)) (.cons (.k (.int 1)) .nil))) (.cons (.tup (.cons (.k (.int 7)) (.cons (.k (.int 1)) .nil))) (.cons (.tup (.cons (.k (.int 0)) (.cons (.k (.int 1)) .nil))) (.cons (.tup (.cons (.k (.int 1)) (.cons (.k (.int 0)) .nil))) .nil))))))))) (.cons (.asg (.n 1) (.im t_u_law_are_bounds_right_x1)) (.cons (.iff (.o2 .ne (.v 1) (.im (.xl (.cons (.k (.bl true)) (.cons (.k (.bl false)) (.cons (.k (.bl true)) (.cons (.k (.bl false)) (.cons (.k (.bl false)) (.cons (.k (.bl false)) .nil))))))))) (.cons (.ret (.k (.bl false))) .nil) .nil) (.cons (.asg (.n 2) (.im t_u_law_are_bounds_right_x2)) (.cons (.ret (.o2 .eq (.v 2) (.im (.xl (.cons (.k (.int 1)) (.cons (.k (.int 2)) (.cons (.k (.int 3)) (.cons (.k .non) (.cons (.k .non) (.cons (.k .non) .nil)))))))))) .nil)))))
def E_u_law_are_bounds_right : Env' := mkE [F_are_tells, F_fewest_modes] []
theorem E_u_law_are_bounds_right_F0 : E_u_law_are_bounds_right.F 0 = F_are_tells := rfl
theorem E_u_law_are_bounds_right_F1 : E_u_law_are_bounds_right.F 1 = F_fewest_modes := rfl
def F_u_law_are_bounds_right : List D → P := runDef E_u_law_are_bounds_right 0 5 t_u_law_are_bounds_right
def t_better : T := (.cons (.ex (.call 0 (.cons (.v 0) .nil))) (.cons (.ex (.call 0 (.cons (.v 1) .nil))) (.cons (.ex (.call 1 (.cons (.v 2) .nil))) (.cons (.par 3 4 (.call 2 (.cons (.v 0) (.cons (.v 2) .nil))) (.call 2 (.cons (.v 1) (.cons (.v 2) .nil)))) (.cons (.iff (.o2 .eq (.v 3) (.v 4)) (.cons (.ret (.k (.str "same"))) .nil) .nil) (.cons (.iff (.or (.o2 .isN (.v 3) (.k .non)) (.o2 .isN (.v 4) (.k .non))) (.cons (.ret (.ite (.o2 .isN (.v 3) (.k .non)) (.k (.str "other")) (.k (.str "one")))) .nil) .nil) (.cons (.ret (.ite (.o2 .lt (.v 3) (.v 4)) (.k (.str "one")) (.k (.str "other")))) .nil)))))))
def E_better : Env' := mkE [F_look_plan, F_look_wants, F_sum_for] []
theorem E_better_F0 : E_better.F 0 = F_look_plan := rfl
theorem E_better_F1 : E_better.F 1 = F_look_wants := rfl
theorem E_better_F2 : E_better.F 2 = F_sum_for := rfl
def F_better : List D → P := runDef E_better 3 5 t_better
def t_u_law_once_b1 : T := (.cons (.iff (.and (.o2 .nisN (.o2 .idx (.v 4) (.v 2)) (.k .non)) (.o2 .eq (.o2 .idx (.v 7) (.k (.int 1))) (.v 1))) (.cons (.asg (.n 8) (.o2 .add (.o2 .idx (.v 4) (.v 2)) (.im (.xl (.cons (.v 6) .nil))))) (.cons .bad .nil)) .nil) .nil)
def t_u_law_once_f1 : T := (.for_ (.t (.cons (.n 6) (.cons (.n 7) .nil))) (.it1 .enum (.o2 .idx (.v 0) (.v 2))) t_u_law_once_b1)
def t_u_law_once_b2 : T := (.cons t_u_law_once_f1 .nil)
def t_u_law_once_f2 : T := (.for_ (.n 2) (.it1 .range1 (.o1 .len (.v 0))) t_u_law_once_b2)
def t_u_law_once : T := (.cons (.par 4 5 (.call 0 (.cons (.v 0) (.cons (.k (.int 0)) .nil))) (.k .non)) (.cons t_u_law_once_f2 (.cons (.asg (.n 3) (.ite (.o2 .nisN (.v 5) (.k .non)) (.o2 .idx (.call 0 (.cons (.v 0) (.cons (.o2 .idx (.v 5) (.k (.int 2))) .nil))) (.k (.int 0))) (.k .non))) (.cons (.ret (.ite (.o2 .nisN (.v 3) (.k .non)) (.o2 .add (.o2 .idx (.v 5) (.k (.int 0))) (.o1 .len (.v 3))) (.k .non))) .nil))))
def E_u_law_once : Env' := mkE [F_u_law_rows] []
theorem E_u_law_once_F0 : E_u_law_once.F 0 = F_u_law_rows := rfl
def F_u_law_once : List D → P := runDef E_u_law_once 2 9 t_u_law_once
def t_u_law_sum_b1 : T := (.cons (.asg (.n 5) (.call 0 (.cons (.v 0) (.cons (.v 3) .nil)))) (.cons (.asg (.n 2) (.ite (.or (.o2 .isN (.v 2) (.k .non)) (.o2 .isN (.v 5) (.k .non))) (.k .non) (.o2 .add (.v 2) (.o2 .mul (.v 5) (.v 4))))) .nil))
def t_u_law_sum_f1 : T := (.for_ (.t (.cons (.n 3) (.cons (.n 4) .nil))) (.it1 .seq (.v 1)) t_u_law_sum_b1)
def t_u_law_sum : T := (.cons (.asg (.n 2) (.k (.int 0))) (.cons t_u_law_sum_f1 (.cons (.ret (.v 2)) .nil)))
def E_u_law_sum : Env' := mkE [F_u_law_once] []
theorem E_u_law_sum_F0 : E_u_law_sum.F 0 = F_u_law_once := rfl
def F_u_law_sum : List D → P := runDef E_u_law_sum 2 6 t_u_law_sum
def t_step_in : T := (.cons (.iff (.or (.o2 .lt (.o1 .len (.v 0)) (.k (.int 3))) (.or (.o2 .ninS (.o2 .idx (.v 0) (.k (.int 0))) (.g 0)) (.o2 .ne (.o2 .idx (.v 0) (.k (.int 1))) (.k (.str ":"))))) (.cons (.rse 6) .nil) .nil) (.cons (.ret (.tup (.cons (.o1 .intB (.o2 .idx (.v 0) (.k (.int 0)))) (.cons (.ite (.o2 .eq (.sl (.v 0) (.k (.int 2)) .nil) (.k (.str "-"))) (.k (.str "")) (.sl (.v 0) (.k (.int 2)) .nil)) .nil)))) .nil))
def E_step_in : Env' := mkE [] [.str "0123456789"]
theorem E_step_in_G0 : E_step_in.G 0 = .str "0123456789" := rfl
def F_step_in : List D → P := runDef E_step_in 1 1 t_step_in
def t_read_plan : T := (.cons (.iff (.not (.o1 (.isi .str) (.v 0))) (.cons (.rse 6) .nil) .nil) (.cons (.asg (.n 1) (.mk (.xl .nil))) (.cons .bad (.cons (.iff (.or (.not (.call 0 (.cons (.o1 .tuple (.v 1)) .nil))) (.o2 .ne (.call 1 (.cons (.o1 .tuple (.v 1)) .nil)) (.v 0))) (.cons (.rse 6) .nil) .nil) (.cons (.ret (.o1 .tuple (.v 1))) .nil)))))
def E_read_plan : Env' := mkE [F_is_plan, F_text_of] []
theorem E_read_plan_F0 : E_read_plan.F 0 = F_is_plan := rfl
theorem E_read_plan_F1 : E_read_plan.F 1 = F_text_of := rfl
def F_read_plan : List D → P := runDef E_read_plan 1 4 t_read_plan
def t_u_law_spoilt : T := (.cons (.asg (.n 3) (.o2 .mod (.v 1) (.o2 .add (.o1 .len (.v 0)) (.k (.int 1))))) (.cons (.asg (.n 4) (.o2 .idx (.v 2) (.o2 .mod (.o2 .fdiv (.v 1) (.k (.int 1000))) (.o1 .len (.v 2))))) (.cons (.asg (.n 5) (.o2 .add (.o2 .add (.v 3) (.k (.int 1))) (.o2 .mod (.o2 .fdiv (.v 1) (.k (.int 7))) (.k (.int 9))))) (.cons (.asg (.n 6) (.o2 .mod (.o2 .fdiv (.v 1) (.k (.int 100000))) (.k (.int 8)))) (.cons (.iff (.o2 .lt (.v 6) (.k (.int 2))) (.cons (.ret (.o2 .add (.o2 .add (.sl (.v 0) .nil (.v 3)) (.v 4)) (.sl (.v 0) (.v 3) .nil))) .nil) .nil) (.cons (.iff (.o2 .eq (.v 6) (.k (.int 2))) (.cons (.ret (.o2 .add (.sl (.v 0) .nil (.v 3)) (.sl (.v 0) (.o2 .add (.v 3) (.k (.int 1))) .nil))) .nil) .nil) (.cons (.iff (.o2 .lt (.v 6) (.k (.int 5))) (.cons (.ret (.o2 .add (.o2 .add (.sl (.v 0) .nil (.v 3)) (.v 4)) (.sl (.v 0) (.o2 .add (.v 3) (.k (.int 1))) .nil))) .nil) .nil) (.cons (.iff (.o2 .eq (.v 6) (.k (.int 5))) (.cons (.ret (.o2 .add (.sl (.v 0) .nil (.v 3)) (.sl (.v 0) (.v 5) .nil))) .nil) .nil) (.cons (.iff (.o2 .eq (.v 6) (.k (.int 6))) (.cons (.ret (.o2 .add (.sl (.v 0) .nil (.v 5)) (.sl (.v 0) (.v 3) .nil))) .nil) .nil) (.cons (.ret (.o2 .idx (.im (.xl (.cons (.o2 .add (.v 0) (.k (.str " "))) (.cons (.o2 .add (.k (.str " ")) (.v 0)) (.cons (.o2 .add (.sl (.v 0) (.v 3) .nil) (.sl (.v 0) .nil (.v 3))) (.cons (.k (.str "")) (.cons (.o2 .add (.v 0) (.v 0)) .nil))))))) (.o2 .mod (.v 1) (.k (.int 5))))) .nil))))))))))
def E_u_law_spoilt : Env' := mkE [] []
def F_u_law_spoilt : List D → P := runDef E_u_law_spoilt 3 7 t_u_law_spoilt
def t_u_law_read_b1 : T := (.cons (.asg (.n 4) (.mk (.xl .nil))) (.cons .bad (.cons (.iff (.or (.o2 .gt (.o1 .len (.v 4)) (.k (.int 3))) (.and (.o2 .ne (.v 3) (.im (.xl .nil))) (.o2 .ne (.o1 .len (.v 4)) (.o1 .len (.o2 .idx (.v 3) (.k (.int 0))))))) (.cons (.ret (.k (.str "no text"))) .nil) .nil) (.cons (.ex (.app 3 (.o1 .tuple (.v 4)))) .nil))))
def t_u_law_read_f1 : T := (.for_ (.n 1) (.it1 .seq (.sl (.v 2) .nil (.o1 .neg (.k (.int 1))))) t_u_law_read_b1)
def t_u_law_read : T := (.cons .bad (.cons t_u_law_read_f1 (.cons (.ret (.ite (.and (.o2 .eq (.o2 .idx (.v 2) (.o1 .neg (.k (.int 1)))) (.k (.str ""))) (.ch .le .le (.k (.int 1)) (.o1 .len (.v 3)) (.k (.int 6)))) (.o1 .tuple (.v 3)) (.k (.str "no text")))) .nil)))
def E_u_law_read : Env' := mkE [] []
def F_u_law_read : List D → P := runDef E_u_law_read 1 10 t_u_law_read
def t_reset_row_x1 : T := (.xc [7] (.n 7) (.it1 .seq (.v 4)) .nil (.o2 .idx (.o2 .idx (.o2 .idx (.v 0) (.v 7)) (.v 5)) (.k (.int 0))))
def t_reset_row_b1 : T := (.cons (.asg (.n 6) (.o1 .tuple (.im (.x1 .sortedSetI (.im t_reset_row_x1))))) (.cons (.iff (.o2 .ninD (.v 6) (.v 2)) (.cons (.put 2 (.v 6) (.o2 .add (.o2 .idx (.v 2) (.v 4)) (.im (.xl (.cons (.v 5) .nil))))) (.cons (.ex (.app 3 (.v 6))) .nil)) .nil) .nil))
def t_reset_row_f1 : T := (.for_ (.n 5) (.it1 .range1 (.o1 .len (.o2 .idx (.v 0) (.k (.int 0))))) t_reset_row_b1)
def t_reset_row_b2 : T := (.cons .bad (.cons (.iff (.o2 .eq (.o1 .len (.v 4)) (.k (.int 1))) (.cons (.ret (.o2 .idx (.v 2) (.v 4))) .nil) .nil) (.cons t_reset_row_f1 .nil)))
def t_reset_row_w1 : T := (.whl (.o2 .ne (.v 3) (.im (.xl .nil))) t_reset_row_b2)
def t_reset_row : T := (.cons (.ex (.call 0 (.cons (.v 0) .nil))) (.cons (.asg (.n 1) (.o1 .tupRange (.o1 .len (.v 0)))) (.cons .bad (.cons (.asg (.n 3) (.mk (.xl (.cons (.v 1) .nil)))) (.cons t_reset_row_w1 (.cons (.ret (.k .non)) .nil))))))
def E_reset_row : Env' := mkE [F_look_plan] []
theorem E_reset_row_F0 : E_reset_row.F 0 = F_look_plan := rfl
def F_reset_row : List D → P := runDef E_reset_row 1 8 t_reset_row
def t_u_law_told_apart_b1 : T := (.cons (.asg (.t (.cons (.n 7) (.cons (.n 8) .nil))) (.o2 .idx (.o2 .idx (.v 1) (.v 6)) (.v 2))) (.cons (.ex (.app 3 (.tup (.cons (.setd 4 (.tup (.cons (.v 5) (.cons (.v 8) .nil))) (.o1 .len (.v 4))) (.cons (.v 7) .nil))))) .nil))
def t_u_law_told_apart_f1 : T := (.for_ (.t (.cons (.n 5) (.cons (.n 6) .nil))) (.it1 .seq (.v 0)) t_u_law_told_apart_b1)
def t_u_law_told_apart : T := (.cons (.par 3 4 (.mk (.xl .nil)) (.mkd true .nil)) (.cons t_u_law_told_apart_f1 (.cons (.ret (.o1 .tuple (.v 3))) .nil)))
def E_u_law_told_apart : Env' := mkE [] []
def F_u_law_told_apart : List D → P := runDef E_u_law_told_apart 3 9 t_u_law_told_apart
def t_u_law_shortest_x1 : T := (.xc [10] (.n 10) (.it1 .range1 (.o1 .len (.v 0))) .nil (.tup (.cons (.k (.int 0)) (.cons (.v 10) .nil))))
def t_u_law_shortest_b1 : T := (.cons (.asg (.n 11) (.call 0 (.cons (.v 8) (.cons (.v 0) (.cons (.v 9) .nil))))) (.cons .bad .nil))
def t_u_law_shortest_f1 : T := (.for_ (.n 9) (.it1 .range1 (.o1 .len (.o2 .idx (.v 0) (.k (.int 0))))) t_u_law_shortest_b1)
def t_u_law_shortest_b2 : T := (.cons .bad (.cons t_u_law_shortest_f1 .nil))
def t_u_law_shortest_f2 : T := (.for_ (.t (.cons (.n 7) (.cons (.n 8) .nil))) (.it1 .seq (.v 4)) t_u_law_shortest_b2)
def t_u_law_shortest_b3 : T := (.cons (.asg (.n 6) (.mk (.xl .nil))) (.cons t_u_law_shortest_f2 (.cons (.asg (.n 4) (.frz (.v 6))) .nil)))
def t_u_law_shortest_w1 : T := (.whl (.o2 .ne (.v 4) (.im (.xl .nil))) t_u_law_shortest_b3)
def t_u_law_shortest : T := (.cons (.asg (.n 3) (.o1 .tuple (.im t_u_law_shortest_x1))) (.cons (.par 4 5 (.im (.xl (.cons (.tup (.cons (.im (.xl .nil)) (.cons (.v 3) .nil))) .nil))) (.mk (.xl (.cons (.v 3) .nil)))) (.cons t_u_law_shortest_w1 (.cons (.ret (.k .non)) .nil))))
def E_u_law_shortest : Env' := mkE [F_u_law_told_apart] []
theorem E_u_law_shortest_F0 : E_u_law_shortest.F 0 = F_u_law_told_apart := rfl
def F_u_law_shortest : List D → P := runDef E_u_law_shortest 3 12 t_u_law_shortest
def t_parted_b1 : T := (.cons (.asg (.t (.cons (.n 7) (.cons (.n 8) .nil))) (.o2 .idx (.o2 .idx (.v 0) (.v 4)) (.v 2))) (.cons .bad (.cons .bad .nil)))
def t_parted_f1 : T := (.for_ (.t (.cons (.n 4) (.cons (.n 5) .nil))) (.it1 .seq (.v 1)) t_parted_b1)
def t_parted : T := (.cons (.asg (.n 3) (.mkd false .nil)) (.cons t_parted_f1 (.cons .bad .nil)))
def E_parted : Env' := mkE [] []
def F_parted : List D → P := runDef E_parted 3 9 t_parted
def t_lots_behind_b1 : T := (.cons (.ex (.extd 3 (.call 0 (.cons (.v 0) (.cons (.v 4) (.cons (.v 2) .nil)))))) .nil)
def t_lots_behind_f1 : T := (.for_ (.n 4) (.it1 .seq (.v 1)) t_lots_behind_b1)
def t_lots_behind : T := (.cons (.asg (.n 3) (.mk (.xl .nil))) (.cons t_lots_behind_f1 (.cons (.ret (.o1 .tuple (.im (.x1 .sortedSetI (.v 3))))) .nil)))
def E_lots_behind : Env' := mkE [F_parted] []
theorem E_lots_behind_F0 : E_lots_behind.F 0 = F_parted := rfl
def F_lots_behind : List D → P := runDef E_lots_behind 3 5 t_lots_behind
def t_is_merged_x1 : T := (.xc [1, 2] (.t (.cons (.n 1) (.cons (.n 2) .nil))) (.it1 .seq (.v 0)) .nil (.o2 .gt (.v 2) (.k (.int 1))))
def t_is_merged : T := (.cons (.ret (.o1 .anyB (.im t_is_merged_x1))) .nil)
def E_is_merged : Env' := mkE [] []
def F_is_merged : List D → P := runDef E_is_merged 1 3 t_is_merged
def t_shortest_row_x1 : T := (.xc [8] (.n 8) (.it1 .range1 (.o1 .len (.v 0))) .nil (.tup (.cons (.v 8) (.cons (.k (.int 1)) .nil))))
def t_shortest_row_x2 : T := (.xc [9] (.n 9) (.it1 .seq (.v 5)) .nil (.o2 .eq (.o1 .len (.v 9)) (.k (.int 1))))
def t_shortest_row_x3 : T := (.xc [9] (.n 9) (.it1 .seq (.v 7)) .nil (.call 1 (.cons (.v 9) .nil)))
def t_shortest_row_b1 : T := (.cons (.asg (.n 7) (.call 0 (.cons (.v 0) (.cons (.v 5) (.cons (.v 6) .nil))))) (.cons (.iff (.and (.o2 .ninD (.v 7) (.v 3)) (.not (.and (.v 1) (.o1 .anyB (.im t_shortest_row_x3))))) (.cons (.put 3 (.v 7) (.o2 .add (.o2 .idx (.v 3) (.v 5)) (.im (.xl (.cons (.v 6) .nil))))) (.cons (.ex (.app 4 (.v 7))) .nil)) .nil) .nil))
def t_shortest_row_f1 : T := (.for_ (.n 6) (.it1 .range1 (.o1 .len (.o2 .idx (.v 0) (.k (.int 0))))) t_shortest_row_b1)
def t_shortest_row_b2 : T := (.cons .bad (.cons (.iff (.o1 .allB (.im t_shortest_row_x2)) (.cons (.ret (.o2 .idx (.v 3) (.v 5))) .nil) .nil) (.cons t_shortest_row_f1 .nil)))
def t_shortest_row_w1 : T := (.whl (.o2 .ne (.v 4) (.im (.xl .nil))) t_shortest_row_b2)
def t_shortest_row : T := (.cons (.asg (.n 2) (.tup (.cons (.o1 .tuple (.im t_shortest_row_x1)) .nil))) (.cons .bad (.cons (.asg (.n 4) (.mk (.xl (.cons (.v 2) .nil)))) (.cons t_shortest_row_w1 (.cons (.ret (.k .non)) .nil)))))
def E_shortest_row : Env' := mkE [F_lots_behind, F_is_merged] []
theorem E_shortest_row_F0 : E_shortest_row.F 0 = F_lots_behind := rfl
theorem E_shortest_row_F1 : E_shortest_row.F 1 = F_is_merged := rfl
def F_shortest_row : List D → P := runDef E_shortest_row 2 10 t_shortest_row
def t_start_row : T := (.cons (.ex (.call 0 (.cons (.v 0) .nil))) (.cons (.ret (.call 1 (.cons (.v 0) (.cons (.k (.bl true)) .nil)))) .nil))
def E_start_row : Env' := mkE [F_look_plan, F_shortest_row] []
theorem E_start_row_F0 : E_start_row.F 0 = F_look_plan := rfl
theorem E_start_row_F1 : E_start_row.F 1 = F_shortest_row := rfl
def F_start_row : List D → P := runDef E_start_row 1 1 t_start_row
def t_end_row : T := (.cons (.ex (.call 0 (.cons (.v 0) .nil))) (.cons (.ret (.call 1 (.cons (.v 0) (.cons (.k (.bl false)) .nil)))) .nil))
def E_end_row : Env' := mkE [F_look_plan, F_shortest_row] []
theorem E_end_row_F0 : E_end_row.F 0 = F_look_plan := rfl
theorem E_end_row_F1 : E_end_row.F 1 = F_shortest_row := rfl
def F_end_row : List D → P := runDef E_end_row 1 1 t_end_row
def t_lowest_b1 : T := (.cons (.par 2 3 (.v 3) (.o2 .mod (.v 2) (.v 3))) .nil)
def t_lowest_w1 : T := (.whl (.o2 .ne (.v 3) (.k (.int 0))) t_lowest_b1)
def t_lowest : T := (.cons (.par 2 3 (.o1 .absI (.v 0)) (.v 1)) (.cons t_lowest_w1 (.cons (.ret (.tup (.cons (.o2 .fdiv (.v 0) (.v 2)) (.cons (.o2 .fdiv (.v 1) (.v 2)) .nil)))) .nil)))
def E_lowest : Env' := mkE [] []
def F_lowest : List D → P := runDef E_lowest 2 4 t_lowest
def t_minus : T := (.cons (.ret (.call 0 (.cons (.o2 .sub (.o2 .mul (.o2 .idx (.v 0) (.k (.int 0))) (.o2 .idx (.v 1) (.k (.int 1)))) (.o2 .mul (.o2 .idx (.v 1) (.k (.int 0))) (.o2 .idx (.v 0) (.k (.int 1))))) (.cons (.o2 .mul (.o2 .idx (.v 0) (.k (.int 1))) (.o2 .idx (.v 1) (.k (.int 1)))) .nil)))) .nil)
def E_minus : Env' := mkE [F_lowest] []
theorem E_minus_F0 : E_minus.F 0 = F_lowest := rfl
def F_minus : List D → P := runDef E_minus 2 2 t_minus
def t_times : T := (.cons (.ret (.call 0 (.cons (.o2 .mul (.o2 .idx (.v 0) (.k (.int 0))) (.o2 .idx (.v 1) (.k (.int 0)))) (.cons (.o2 .mul (.o2 .idx (.v 0) (.k (.int 1))) (.o2 .idx (.v 1) (.k (.int 1)))) .nil)))) .nil)
def E_times : Env' := mkE [F_lowest] []
theorem E_times_F0 : E_times.F 0 = F_lowest := rfl
def F_times : List D → P := runDef E_times 2 2 t_times
def t_over : T := (.cons (.iff (.o2 .lt (.o2 .idx (.v 1) (.k (.int 0))) (.k (.int 0))) (.cons (.ret (.call 0 (.cons (.o2 .sub (.k (.int 0)) (.o2 .mul (.o2 .idx (.v 0) (.k (.int 0))) (.o2 .idx (.v 1) (.k (.int 1))))) (.cons (.o2 .sub (.k (.int 0)) (.o2 .mul (.o2 .idx (.v 0) (.k (.int 1))) (.o2 .idx (.v 1) (.k (.int 0))))) .nil)))) .nil) .nil) (.cons (.ret (.call 0 (.cons (.o2 .mul (.o2 .idx (.v 0) (.k (.int 0))) (.o2 .idx (.v 1) (.k (.int 1)))) (.cons (.o2 .mul (.o2 .idx (.v 0) (.k (.int 1))) (.o2 .idx (.v 1) (.k (.int 0)))) .nil)))) .nil))
def E_over : Env' := mkE [F_lowest] []
theorem E_over_F0 : E_over.F 0 = F_lowest := rfl
def F_over : List D → P := runDef E_over 2 2 t_over
def t_solved_x1 : T := (.xc [5] (.n 5) (.it1 .seq (.frz (.v 0))) .nil (.im (.x1 .list (.v 5))))
def t_solved_x2 : T := (.xc [4] (.n 4) (.it2 .range2 (.v 2) (.v 1)) (.o2 .ne (.o2 .idx (.o2 .idx (.o2 .idx (.v 0) (.v 4)) (.v 2)) (.k (.int 0))) (.k (.int 0))) (.v 4))
def t_solved_b1 : T := (.cons (.asg (.n 6) (.o2 .idx (.o2 .idx (.v 0) (.v 4)) (.v 2))) (.cons (.iff (.and (.o2 .ne (.v 4) (.v 2)) (.o2 .ne (.o2 .idx (.v 6) (.k (.int 0))) (.k (.int 0)))) (.cons .bad .nil) .nil) .nil))
def t_solved_f1 : T := (.for_ (.n 4) (.it1 .range1 (.v 1)) t_solved_b1)
def t_solved_b2 : T := (.cons (.asg (.n 3) (.o2 .idx (.im t_solved_x2) (.k (.int 0)))) (.cons .bad (.cons .bad (.cons t_solved_f1 .nil))))
def t_solved_f2 : T := (.for_ (.n 2) (.it1 .range1 (.v 1)) t_solved_b2)
def t_solved_x3 : T := (.xc [5] (.n 5) (.it1 .seq (.frz (.v 0))) .nil (.o2 .idx (.v 5) (.v 1)))
def t_solved : T := (.cons (.asg (.n 0) (.mk t_solved_x1)) (.cons (.asg (.n 1) (.o1 .len (.v 0))) (.cons t_solved_f2 (.cons (.ret (.im t_solved_x3)) .nil))))
def E_solved : Env' := mkE [] []
def F_solved : List D → P := runDef E_solved 1 9 t_solved
def t_look_deed : T := (.cons (.ex (.call 0 (.cons (.v 0) .nil))) (.cons (.iff (.or (.not (.call 1 (.cons (.v 1) .nil))) (.o2 .eq (.v 1) (.k (.str "")))) (.cons (.rse 7) .nil) .nil) .nil))
def E_look_deed : Env' := mkE [F_look_plan, F_is_deed] []
theorem E_look_deed_F0 : E_look_deed.F 0 = F_look_plan := rfl
theorem E_look_deed_F1 : E_look_deed.F 1 = F_is_deed := rfl
def F_look_deed : List D → P := runDef E_look_deed 2 2 t_look_deed
def t_can_do_x1 : T := (.xc [4, 5] (.t (.cons (.n 4) (.cons (.n 5) .nil))) (.it1 .seq (.o2 .idx (.v 0) (.v 3))) .nil (.o2 .eq (.v 5) (.v 2)))
def t_can_do_x2 : T := (.xc [3] (.n 3) (.it1 .seq (.call 0 (.cons (.v 0) (.cons (.v 1) .nil)))) .nil (.o1 .anyB (.im t_can_do_x1)))
def t_can_do : T := (.cons (.ret (.o1 .anyB (.im t_can_do_x2))) .nil)
def E_can_do : Env' := mkE [F_rows_from] []
theorem E_can_do_F0 : E_can_do.F 0 = F_rows_from := rfl
def F_can_do : List D → P := runDef E_can_do 3 6 t_can_do
def t_doers_x1 : T := (.xc [2] (.n 2) (.it1 .range1 (.o1 .len (.v 0))) (.call 0 (.cons (.v 0) (.cons (.v 2) (.cons (.v 1) .nil)))) (.v 2))
def t_doers : T := (.cons (.ret (.im t_doers_x1)) .nil)
def E_doers : Env' := mkE [F_can_do] []
theorem E_doers_F0 : E_doers.F 0 = F_can_do := rfl
def F_doers : List D → P := runDef E_doers 2 3 t_doers
def t_sums_from_x1 : T := (.xc [10, 11] (.t (.cons (.n 10) (.cons (.n 11) .nil))) (.it1 .seq (.o2 .idx (.v 0) (.v 6))) (.and (.o2 .eq (.v 10) (.v 8)) (.o2 .ne (.v 11) (.v 1))) (.k (.int 1)))
def t_sums_from_b1 : T := (.cons (.asg (.n 9) (.o1 .len (.im t_sums_from_x1))) (.cons (.ex (.app 7 (.call 0 (.cons (.tup (.cons (.o1 .intB (.o2 .eq (.v 6) (.v 8))) (.cons (.k (.int 1)) .nil))) (.cons (.call 1 (.cons (.v 9) (.cons (.v 4) .nil))) .nil))))) .nil))
def t_sums_from_f1 : T := (.for_ (.n 8) (.it1 .seq (.v 2)) t_sums_from_b1)
def t_sums_from_b2 : T := (.cons (.asg (.n 7) (.mk (.xl .nil))) (.cons t_sums_from_f1 (.cons (.ex (.app 5 (.o2 .add (.v 7) (.im (.xl (.cons (.o2 .idx (.v 3) (.v 6)) .nil)))))) .nil)))
def t_sums_from_f2 : T := (.for_ (.n 6) (.it1 .seq (.v 2)) t_sums_from_b2)
def t_sums_from : T := (.cons (.asg (.n 4) (.o1 .len (.o2 .idx (.v 0) (.k (.int 0))))) (.cons (.asg (.n 5) (.mk (.xl .nil))) (.cons t_sums_from_f2 (.cons .bad .nil))))
def E_sums_from : Env' := mkE [F_minus, F_lowest] []
theorem E_sums_from_F0 : E_sums_from.F 0 = F_minus := rfl
theorem E_sums_from_F1 : E_sums_from.F 1 = F_lowest := rfl
def F_sums_from : List D → P := runDef E_sums_from 4 12 t_sums_from
def t_chance_in : T := (.cons (.asg (.n 2) (.call 0 (.cons (.v 0) (.cons (.v 1) .nil)))) (.cons (.iff (.o2 .ninL (.k (.int 0)) (.v 2)) (.cons (.ret (.tup (.cons (.k (.int 0)) (.cons (.k (.int 1)) .nil)))) .nil) .nil) (.cons (.asg (.n 3) (.o1 .len (.o2 .idx (.v 0) (.k (.int 0))))) (.cons .bad (.cons (.ret (.o2 .idx (.call 1 (.cons (.v 0) (.cons (.v 1) (.cons (.v 2) (.cons (.v 4) .nil))))) (.k (.int 0)))) .nil)))))
def E_chance_in : Env' := mkE [F_doers, F_sums_from] []
theorem E_chance_in_F0 : E_chance_in.F 0 = F_doers := rfl
theorem E_chance_in_F1 : E_chance_in.F 1 = F_sums_from := rfl
def F_chance_in : List D → P := runDef E_chance_in 2 8 t_chance_in
def t_chance_of : T := (.cons (.ex (.call 0 (.cons (.v 0) (.cons (.v 1) .nil)))) (.cons (.ret (.call 1 (.cons (.v 0) (.cons (.v 1) .nil)))) .nil))
def E_chance_of : Env' := mkE [F_look_deed, F_chance_in] []
theorem E_chance_of_F0 : E_chance_of.F 0 = F_look_deed := rfl
theorem E_chance_of_F1 : E_chance_of.F 1 = F_chance_in := rfl
def F_chance_of : List D → P := runDef E_chance_of 2 2 t_chance_of
def t_mean_presses : T := (.cons (.ex (.call 0 (.cons (.v 0) (.cons (.v 1) .nil)))) (.cons (.iff (.o2 .ne (.call 1 (.cons (.v 0) (.cons (.v 1) .nil))) (.tup (.cons (.k (.int 1)) (.cons (.k (.int 1)) .nil)))) (.cons (.ret (.k .non)) .nil) .nil) (.cons (.asg (.n 2) (.call 2 (.cons (.v 0) (.cons (.v 1) .nil)))) (.cons .bad .nil))))
def E_mean_presses : Env' := mkE [F_look_deed, F_chance_in, F_doers] []
theorem E_mean_presses_F0 : E_mean_presses.F 0 = F_look_deed := rfl
theorem E_mean_presses_F1 : E_mean_presses.F 1 = F_chance_in := rfl
theorem E_mean_presses_F2 : E_mean_presses.F 2 = F_doers := rfl
def F_mean_presses : List D → P := runDef E_mean_presses 2 4 t_mean_presses
def t_u_law_low_b1 : T := (.cons (.par 2 3 (.v 3) (.o2 .mod (.v 2) (.v 3))) .nil)
def t_u_law_low_w1 : T := (.whl (.o2 .ne (.v 3) (.k (.int 0))) t_u_law_low_b1)
def t_u_law_low : T := (.cons (.par 2 3 (.v 0) (.v 1)) (.cons t_u_law_low_w1 (.cons (.ret (.tup (.cons (.o2 .fdiv (.v 0) (.v 2)) (.cons (.o2 .fdiv (.v 1) (.v 2)) .nil)))) .nil)))
def E_u_law_low : Env' := mkE [] []
def F_u_law_low : List D → P := runDef E_u_law_low 2 4 t_u_law_low
def t_u_law_begun_x1 : T := (.xc [4, 5] (.t (.cons (.n 4) (.cons (.n 5) .nil))) (.it1 .seq (.o2 .idx (.v 0) (.v 3))) .nil (.tup (.cons (.o2 .idx (.v 2) (.v 4)) (.cons (.v 5) .nil))))
def t_u_law_begun_x2 : T := (.xc [3] (.n 3) (.it1 .seq (.frz (.v 2))) .nil (.o1 .tuple (.im t_u_law_begun_x1)))
def t_u_law_begun : T := (.cons (.asg (.n 2) (.mk (.x1 .listRange (.o1 .len (.v 0))))) (.cons .bad (.cons (.ret (.o1 .tuple (.im t_u_law_begun_x2))) .nil)))
def E_u_law_begun : Env' := mkE [] []
def F_u_law_begun : List D → P := runDef E_u_law_begun 2 6 t_u_law_begun
def t_u_law_copied : T := (.cons (.iff (.o1 (.isi .list) (.v 0)) (.cons .bad .nil) .nil) (.cons (.iff (.o1 (.isi .tuple) (.v 0)) (.cons .bad .nil) .nil) (.cons .bad (.cons (.ret (.v 0)) .nil))))
def E_u_law_copied : Env' := mkE [] []
def F_u_law_copied : List D → P := runDef E_u_law_copied 1 3 t_u_law_copied
def t_u_law_spoil_b1 : T := (.cons .bad .nil)
def t_u_law_spoil_f1 : T := (.for_ (.n 1) (.it1 .seq (.frz (.v 0))) t_u_law_spoil_b1)
def t_u_law_spoil : T := (.cons (.iff (.o1 (.isis [.list, .tuple]) (.v 0)) (.cons t_u_law_spoil_f1 .nil) .nil) (.cons .bad (.cons (.iff (.o1 (.isi .list) (.v 0)) (.cons (.ex (.app 0 (.k .non))) (.cons .bad .nil)) .nil) .nil)))
def E_u_law_spoil : Env' := mkE [] []
def F_u_law_spoil : List D → P := runDef E_u_law_spoil 1 3 t_u_law_spoil
def t_u_law_lists : T := (.cons (.asg (.n 6) (.mk (.xl (.cons (.call 0 (.cons (.v 0) (.cons (.k (.int 0)) (.cons (.v 2) .nil)))) (.cons (.o2 .idx (.call 1 (.cons (.v 0) (.cons (.k (.int 0)) (.cons (.v 2) .nil)))) (.k (.int 1))) (.cons (.call 2 (.cons (.v 0) (.cons (.k (.int 0)) (.cons (.k (.int 0)) .nil)))) (.cons (.call 3 (.cons (.v 0) .nil)) .nil))))))) (.cons (.ex (.extd 6 (.im (.xl (.cons (.call 4 (.cons (.v 0) .nil)) (.cons (.call 5 (.cons (.v 0) .nil)) .nil)))))) (.cons .bad (.cons (.ex (.app 6 (.im (.xl (.cons (.call 6 (.cons (.v 0) .nil)) (.cons (.call 7 (.cons (.v 0) (.cons (.v 3) .nil))) (.cons (.call 8 (.cons (.o1 .len (.o2 .idx (.v 0) (.k (.int 0)))) (.cons (.v 5) .nil))) (.cons (.call 9 (.cons (.v 5) .nil)) .nil)))))))) (.cons (.ret (.o2 .add (.v 6) (.im (.xl (.cons (.im (.xl (.cons (.call 10 (.cons (.v 0) (.cons (.v 4) .nil))) (.cons (.call 11 (.cons (.v 0) (.cons (.v 4) .nil))) (.cons (.call 12 (.cons (.v 0) (.cons (.v 1) (.cons (.v 4) .nil)))) .nil))))) .nil))))) .nil)))))
def E_u_law_lists : Env' := mkE [F_modes_met, F_pressed, F_way_to, F_met, F_stranded, F_needless, F_least, F_with_buttons, F_fewest_modes, F_clash, F_presses_for, F_hardest, F_better] []
theorem E_u_law_lists_F0 : E_u_law_lists.F 0 = F_modes_met := rfl
theorem E_u_law_lists_F1 : E_u_law_lists.F 1 = F_pressed := rfl
theorem E_u_law_lists_F2 : E_u_law_lists.F 2 = F_way_to := rfl
theorem E_u_law_lists_F3 : E_u_law_lists.F 3 = F_met := rfl
theorem E_u_law_lists_F4 : E_u_law_lists.F 4 = F_stranded := rfl
theorem E_u_law_lists_F5 : E_u_law_lists.F 5 = F_needless := rfl
theorem E_u_law_lists_F6 : E_u_law_lists.F 6 = F_least := rfl
theorem E_u_law_lists_F7 : E_u_law_lists.F 7 = F_with_buttons := rfl
theorem E_u_law_lists_F8 : E_u_law_lists.F 8 = F_fewest_modes := rfl
theorem E_u_law_lists_F9 : E_u_law_lists.F 9 = F_clash := rfl
theorem E_u_law_lists_F10 : E_u_law_lists.F 10 = F_presses_for := rfl
theorem E_u_law_lists_F11 : E_u_law_lists.F 11 = F_hardest := rfl
theorem E_u_law_lists_F12 : E_u_law_lists.F 12 = F_better := rfl
def F_u_law_lists : List D → P := runDef E_u_law_lists 6 7 t_u_law_lists
def t_look_deeds_x1 : T := (.xc [3] (.n 3) (.it1 .seq (.v 2)) .nil (.call 2 (.cons (.v 3) .nil)))
def t_look_deeds : T := (.cons (.ex (.call 0 (.cons (.v 0) .nil))) (.cons (.iff (.or (.not (.call 1 (.cons (.o1 .len (.o2 .idx (.v 0) (.k (.int 0)))) (.cons (.v 1) .nil)))) (.or (.not (.o1 (.isis [.list, .tuple]) (.v 2))) (.o2 .ne (.o1 .len (.v 2)) (.o1 .len (.v 1))))) (.cons (.rse 3) .nil) .nil) (.cons (.iff (.not (.o1 .allB (.im t_look_deeds_x1))) (.cons (.rse 3) .nil) .nil) .nil)))
def E_look_deeds : Env' := mkE [F_look_plan, F_is_row, F_is_deed] []
theorem E_look_deeds_F0 : E_look_deeds.F 0 = F_look_plan := rfl
theorem E_look_deeds_F1 : E_look_deeds.F 1 = F_is_row := rfl
theorem E_look_deeds_F2 : E_look_deeds.F 2 = F_is_deed := rfl
def F_look_deeds : List D → P := runDef E_look_deeds 3 4 t_look_deeds
def t_starts_for_x1 : T := (.xc [5, 6] (.t (.cons (.n 5) (.cons (.n 6) .nil))) (.it1 .seq (.call 0 (.cons (.v 0) (.cons (.v 4) (.cons (.v 1) .nil))))) .nil (.v 6))
def t_starts_for_b1 : T := (.cons (.iff (.o2 .eq (.im t_starts_for_x1) (.im (.x1 .list (.v 2)))) (.cons (.ex (.app 3 (.v 4))) .nil) .nil) .nil)
def t_starts_for_f1 : T := (.for_ (.n 4) (.it1 .range1 (.o1 .len (.v 0))) t_starts_for_b1)
def t_starts_for : T := (.cons (.asg (.n 3) (.mk (.xl .nil))) (.cons t_starts_for_f1 (.cons (.ret (.frz (.v 3))) .nil)))
def E_starts_for : Env' := mkE [F_steps_of] []
theorem E_starts_for_F0 : E_starts_for.F 0 = F_steps_of := rfl
def F_starts_for : List D → P := runDef E_starts_for 3 7 t_starts_for
def t_told_start : T := (.cons (.ex (.call 0 (.cons (.v 0) (.cons (.v 1) (.cons (.v 2) .nil))))) (.cons (.ret (.call 1 (.cons (.v 0) (.cons (.v 1) (.cons (.v 2) .nil))))) .nil))
def E_told_start : Env' := mkE [F_look_deeds, F_starts_for] []
theorem E_told_start_F0 : E_told_start.F 0 = F_look_deeds := rfl
theorem E_told_start_F1 : E_told_start.F 1 = F_starts_for := rfl
def F_told_start : List D → P := runDef E_told_start 3 3 t_told_start
def t_told_end_b1 : T := (.cons (.asg (.n 5) (.call 2 (.cons (.v 0) (.cons (.v 4) (.cons (.v 1) .nil))))) (.cons (.ex (.app 3 (.ite (.o2 .ne (.v 5) (.im (.xl .nil))) (.o2 .idx (.o2 .idx (.v 5) (.o1 .neg (.k (.int 1)))) (.k (.int 0))) (.v 4)))) .nil))
def t_told_end_f1 : T := (.for_ (.n 4) (.it1 .seq (.call 1 (.cons (.v 0) (.cons (.v 1) (.cons (.v 2) .nil))))) t_told_end_b1)
def t_told_end : T := (.cons (.ex (.call 0 (.cons (.v 0) (.cons (.v 1) (.cons (.v 2) .nil))))) (.cons (.asg (.n 3) (.mk (.xl .nil))) (.cons t_told_end_f1 (.cons (.ret (.im (.x1 .sortedSetI (.v 3)))) .nil))))
def E_told_end : Env' := mkE [F_look_deeds, F_starts_for, F_steps_of] []
theorem E_told_end_F0 : E_told_end.F 0 = F_look_deeds := rfl
theorem E_told_end_F1 : E_told_end.F 1 = F_starts_for := rfl
theorem E_told_end_F2 : E_told_end.F 2 = F_steps_of := rfl
def F_told_end : List D → P := runDef E_told_end 3 6 t_told_end
def t_count_rows_b1 : T := (.cons (.asg (.n 12) (.tup (.cons (.v 10) (.cons (.o2 .add (.v 9) (.o1 .intB (.o2 .eq (.v 11) (.v 2)))) .nil)))) (.cons (.put 6 (.v 12) (.o2 .add (.dget (.v 6) (.v 12) (.k (.int 0))) (.v 7))) .nil))
def t_count_rows_f1 : T := (.for_ (.t (.cons (.n 10) (.cons (.n 11) .nil))) (.it1 .seq (.o2 .idx (.v 0) (.v 8))) t_count_rows_b1)
def t_count_rows_b2 : T := (.cons t_count_rows_f1 .nil)
def t_count_rows_f2 : T := (.forD (.t (.cons (.t (.cons (.n 8) (.cons (.n 9) .nil))) (.cons (.n 7) .nil))) .items 4 t_count_rows_b2)
def t_count_rows_b3 : T := (.cons (.asg (.n 6) (.mkd true .nil)) (.cons t_count_rows_f2 (.cons (.asg (.n 4) (.frz (.v 6))) .nil)))
def t_count_rows_f3 : T := (.for_ (.n 5) (.it1 .range1 (.v 1)) t_count_rows_b3)
def t_count_rows_x1 : T := (.xcD [7, 8, 9] (.t (.cons (.t (.cons (.n 8) (.cons (.n 9) .nil))) (.cons (.n 7) .nil))) .items 4 (.o2 .eq (.v 9) (.v 3)) (.v 7))
def t_count_rows : T := (.cons (.ex (.call 0 (.cons (.v 0) (.cons (.v 2) .nil)))) (.cons (.iff (.or (.not (.call 1 (.cons (.v 1) (.cons (.k (.int 0)) (.cons (.g 0) .nil))))) (.not (.call 1 (.cons (.v 3) (.cons (.k (.int 0)) (.cons (.g 0) .nil)))))) (.cons (.rse 8) .nil) .nil) (.cons (.asg (.n 4) (.imd true (.tup (.cons (.k (.int 0)) (.cons (.k (.int 0)) .nil))) (.k (.int 1)))) (.cons t_count_rows_f3 (.cons (.ret (.o1 .sum (.im t_count_rows_x1))) .nil)))))
def E_count_rows : Env' := mkE [F_look_deed, F_is_whole] [.int 40]
theorem E_count_rows_F0 : E_count_rows.F 0 = F_look_deed := rfl
theorem E_count_rows_F1 : E_count_rows.F 1 = F_is_whole := rfl
theorem E_count_rows_G0 : E_count_rows.G 0 = .int 40 := rfl
def F_count_rows : List D → P := runDef E_count_rows 4 13 t_count_rows
def t_u_law_all_rows_x1 : T := (.xc [6] (.n 6) (.it1 .range1 (.v 0)) .nil (.o2 .add (.v 5) (.im (.xl (.cons (.v 6) .nil)))))
def t_u_law_all_rows_b1 : T := (.cons (.ex (.extd 4 (.im t_u_law_all_rows_x1))) .nil)
def t_u_law_all_rows_f1 : T := (.for_ (.n 5) (.it1 .seq (.v 2)) t_u_law_all_rows_b1)
def t_u_law_all_rows_b2 : T := (.cons (.asg (.n 4) (.mk (.xl .nil))) (.cons t_u_law_all_rows_f1 (.cons (.asg (.n 2) (.frz (.v 4))) .nil)))
def t_u_law_all_rows_f2 : T := (.for_ (.n 3) (.it1 .range1 (.v 1)) t_u_law_all_rows_b2)
def t_u_law_all_rows : T := (.cons (.asg (.n 2) (.im (.xl (.cons (.im (.xl .nil)) .nil)))) (.cons t_u_law_all_rows_f2 (.cons (.ret (.v 2)) .nil)))
def E_u_law_all_rows : Env' := mkE [] []
def F_u_law_all_rows : List D → P := runDef E_u_law_all_rows 2 7 t_u_law_all_rows
def t_u_law_ends_b1 : T := (.cons (.asg (.t (.cons (.n 4) (.cons (.n 5) .nil))) (.call 0 (.cons (.v 0) (.cons (.v 3) (.cons (.v 1) .nil))))) (.cons (.ex (.app 2 (.tup (.cons (.o1 .tuple (.v 5)) (.cons (.o2 .idx (.v 4) (.o1 .neg (.k (.int 1)))) .nil))))) .nil))
def t_u_law_ends_f1 : T := (.for_ (.n 3) (.it1 .range1 (.o1 .len (.v 0))) t_u_law_ends_b1)
def t_u_law_ends : T := (.cons (.asg (.n 2) (.mk (.xl .nil))) (.cons t_u_law_ends_f1 (.cons (.ret (.frz (.v 2))) .nil)))
def E_u_law_ends : Env' := mkE [F_u_law_walk] []
theorem E_u_law_ends_F0 : E_u_law_ends.F 0 = F_u_law_walk := rfl
def F_u_law_ends : List D → P := runDef E_u_law_ends 2 6 t_u_law_ends
def t_are_keys_for_b1 : T := (.cons (.iff (.or (.not (.o1 (.isi .tuple) (.v 2))) (.or (.o2 .ne (.o1 .len (.v 2)) (.k (.int 2))) (.or (.not (.call 0 (.cons (.o2 .idx (.v 2) (.k (.int 0))) .nil))) (.o2 .eq (.o2 .idx (.v 2) (.k (.int 0))) (.k (.str "")))))) (.cons (.ret (.k (.bl false))) .nil) .nil) (.cons (.iff (.not (.call 1 (.cons (.o2 .idx (.v 2) (.k (.int 1))) (.cons (.k (.int 0)) (.cons (.o2 .sub (.v 0) (.k (.int 1))) .nil))))) (.cons (.ret (.k (.bl false))) .nil) .nil) .nil))
def t_are_keys_for_f1 : T := (.for_ (.n 2) (.it1 .seq (.v 1)) t_are_keys_for_b1)
def t_are_keys_for_x1 : T := (.xc [2, 3] (.t (.cons (.n 2) (.cons (.n 3) .nil))) (.it2 .zip (.v 1) (.sl (.v 1) (.k (.int 1)) .nil)) .nil (.o2 .lt (.o2 .idx (.v 2) (.k (.int 0))) (.o2 .idx (.v 3) (.k (.int 0)))))
def t_are_keys_for : T := (.cons (.iff (.not (.o1 (.isi .tuple) (.v 1))) (.cons (.ret (.k (.bl false))) .nil) .nil) (.cons t_are_keys_for_f1 (.cons (.ret (.o1 .allB (.im t_are_keys_for_x1))) .nil)))
def E_are_keys_for : Env' := mkE [F_is_deed, F_is_whole] []
theorem E_are_keys_for_F0 : E_are_keys_for.F 0 = F_is_deed := rfl
theorem E_are_keys_for_F1 : E_are_keys_for.F 1 = F_is_whole := rfl
def F_are_keys_for : List D → P := runDef E_are_keys_for 2 4 t_are_keys_for
def t_look_chain : T := (.cons (.ex (.call 0 (.cons (.v 0) .nil))) (.cons (.ex (.call 0 (.cons (.v 1) .nil))) (.cons (.iff (.not (.call 1 (.cons (.o1 .len (.o2 .idx (.v 1) (.k (.int 0)))) (.cons (.v 2) .nil)))) (.cons (.rse 9) .nil) .nil) .nil)))
def E_look_chain : Env' := mkE [F_look_plan, F_are_keys_for] []
theorem E_look_chain_F0 : E_look_chain.F 0 = F_look_plan := rfl
theorem E_look_chain_F1 : E_look_chain.F 1 = F_are_keys_for := rfl
def F_look_chain : List D → P := runDef E_look_chain 3 3 t_look_chain
def t_are_keys : T := (.cons (.ex (.call 0 (.cons (.v 0) .nil))) (.cons (.ret (.call 1 (.cons (.o1 .len (.o2 .idx (.v 0) (.k (.int 0)))) (.cons (.v 1) .nil)))) .nil))
def E_are_keys : Env' := mkE [F_look_plan, F_are_keys_for] []
theorem E_are_keys_F0 : E_are_keys.F 0 = F_look_plan := rfl
theorem E_are_keys_F1 : E_are_keys.F 1 = F_are_keys_for := rfl
def F_are_keys : List D → P := runDef E_are_keys 2 2 t_are_keys
def t_led : T := (.cons (.asg (.t (.cons (.n 5) (.cons (.n 6) .nil))) (.o2 .idx (.o2 .idx (.v 0) (.o2 .idx (.v 3) (.k (.int 0)))) (.v 4))) (.cons (.iff (.o2 .ninL (.v 6) (.v 2)) (.cons (.ret (.tup (.cons (.tup (.cons (.v 5) (.cons (.o2 .idx (.v 3) (.k (.int 1))) .nil))) (.cons (.k (.str "")) .nil)))) .nil) .nil) (.cons (.asg (.t (.cons (.n 7) (.cons (.n 8) .nil))) (.o2 .idx (.o2 .idx (.v 1) (.o2 .idx (.v 3) (.k (.int 1)))) (.o2 .idx (.v 2) (.v 6)))) (.cons (.ret (.tup (.cons (.tup (.cons (.v 5) (.cons (.v 7) .nil))) (.cons (.v 8) .nil)))) .nil))))
def E_led : Env' := mkE [] []
def F_led : List D → P := runDef E_led 5 9 t_led
def t_chained_b1 : T := (.cons .bad (.cons (.ex (.app 6 (.v 7))) .nil))
def t_chained_f1 : T := (.for_ (.n 4) (.it1 .seq (.v 3)) t_chained_b1)
def t_chained : T := (.cons (.ex (.call 0 (.cons (.v 0) (.cons (.v 1) (.cons (.v 2) .nil))))) (.cons (.iff (.not (.call 1 (.cons (.o1 .len (.o2 .idx (.v 0) (.k (.int 0)))) (.cons (.v 3) .nil)))) (.cons (.rse 3) .nil) .nil) (.cons (.par 5 6 (.tup (.cons (.k (.int 0)) (.cons (.k (.int 0)) .nil))) (.mk (.xl .nil))) (.cons t_chained_f1 (.cons (.ret (.o2 .add (.v 5) (.tup (.cons (.frz (.v 6)) .nil)))) .nil)))))
def E_chained : Env' := mkE [F_look_chain, F_is_row] []
theorem E_chained_F0 : E_chained.F 0 = F_look_chain := rfl
theorem E_chained_F1 : E_chained.F 1 = F_is_row := rfl
def F_chained : List D → P := runDef E_chained 4 8 t_chained
def t_u_law_keys_x1 : T := (.xc [5, 6] (.t (.cons (.n 5) (.cons (.n 6) .nil))) (.it1 .enum (.v 3)) (.o2 .gt (.call 0 (.cons (.v 0) (.cons (.o2 .add (.v 1) (.v 5)) (.cons (.k (.int 4)) .nil)))) (.k (.int 0))) (.v 6))
def t_u_law_keys_x2 : T := (.xc [5, 6] (.t (.cons (.n 5) (.cons (.n 6) .nil))) (.it1 .enum (.v 4)) .nil (.tup (.cons (.v 6) (.cons (.call 0 (.cons (.v 0) (.cons (.o2 .add (.o2 .add (.v 1) (.k (.int 10))) (.v 5)) (.cons (.v 2) .nil)))) .nil))))
def t_u_law_keys : T := (.cons (.asg (.n 3) (.im (.xl (.cons (.k (.str "abcdef")) (.cons (.k (.str "go")) (.cons (.k (.str "lamp")) (.cons (.k (.str "lap")) (.cons (.k (.str "set")) (.cons (.k (.str "x")) .nil))))))))) (.cons (.asg (.n 4) (.im t_u_law_keys_x1)) (.cons (.ret (.o1 .tuple (.im t_u_law_keys_x2))) .nil)))
def E_u_law_keys : Env' := mkE [F_u_law_pick] []
theorem E_u_law_keys_F0 : E_u_law_keys.F 0 = F_u_law_pick := rfl
def F_u_law_keys : List D → P := runDef E_u_law_keys 3 7 t_u_law_keys
def t_u_law_chain_b1 : T := (.cons (.asg (.t (.cons (.n 5) (.cons (.n 8) .nil))) (.o2 .idx (.o2 .idx (.v 0) (.v 5)) (.v 4))) (.cons .bad .nil))
def t_u_law_chain_f1 : T := (.for_ (.n 4) (.it1 .seq (.v 3)) t_u_law_chain_b1)
def t_u_law_chain : T := (.cons .bad (.cons t_u_law_chain_f1 (.cons (.ret (.tup (.cons (.v 5) (.cons (.v 6) (.cons (.frz (.v 7)) .nil))))) .nil)))
def E_u_law_chain : Env' := mkE [] []
def F_u_law_chain : List D → P := runDef E_u_law_chain 4 9 t_u_law_chain
def t_chain_plan_b1 : T := (.cons .bad (.cons (.iff (.o2 .ninL (.v 7) (.v 3)) (.cons (.ex (.app 3 (.v 7))) .nil) .nil) (.cons .bad .nil)))
def t_chain_plan_f1 : T := (.for_ (.n 6) (.it1 .range1 (.o1 .len (.o2 .idx (.v 0) (.k (.int 0))))) t_chain_plan_b1)
def t_chain_plan_b2 : T := (.cons (.asg (.n 5) (.mk (.xl .nil))) (.cons t_chain_plan_f1 (.cons (.ex (.app 4 (.o1 .tuple (.v 5)))) .nil)))
def t_chain_plan_w1 : T := (.whl (.o2 .lt (.o1 .len (.v 4)) (.o1 .len (.v 3))) t_chain_plan_b2)
def t_chain_plan : T := (.cons (.ex (.call 0 (.cons (.v 0) (.cons (.v 1) (.cons (.v 2) .nil))))) (.cons (.asg (.n 3) (.mk (.xl (.cons (.tup (.cons (.k (.int 0)) (.cons (.k (.int 0)) .nil))) .nil)))) (.cons (.asg (.n 4) (.mk (.xl .nil))) (.cons t_chain_plan_w1 (.cons (.iff (.o2 .gt (.o1 .len (.v 4)) (.g 0)) (.cons (.rse 0) .nil) .nil) (.cons (.ret (.o1 .tuple (.v 4))) .nil))))))
def E_chain_plan : Env' := mkE [F_look_chain] [.int 6]
theorem E_chain_plan_F0 : E_chain_plan.F 0 = F_look_chain := rfl
theorem E_chain_plan_G0 : E_chain_plan.G 0 = .int 6 := rfl
def F_chain_plan : List D → P := runDef E_chain_plan 3 9 t_chain_plan
def t_wanted_b1 : T := (.cons (.iff (.o2 .ne (.setd 2 (.tup (.cons (.v 5) (.cons (.v 6) .nil))) (.v 7)) (.v 7)) (.cons (.ret (.k .non)) .nil) .nil) (.cons (.asg (.n 5) (.o2 .idx (.o2 .idx (.o2 .idx (.v 0) (.v 5)) (.v 6)) (.k (.int 0)))) .nil))
def t_wanted_f1 : T := (.for_ (.t (.cons (.n 6) (.cons (.n 7) .nil))) (.it2 .zip (.v 3) (.v 4)) t_wanted_b1)
def t_wanted_b2 : T := (.cons (.asg (.n 5) (.k (.int 0))) (.cons t_wanted_f1 .nil))
def t_wanted_f2 : T := (.for_ (.t (.cons (.n 3) (.cons (.n 4) .nil))) (.it1 .seq (.v 1)) t_wanted_b2)
def t_wanted : T := (.cons (.asg (.n 2) (.mkd true .nil)) (.cons t_wanted_f2 (.cons (.ret (.frz (.v 2))) .nil)))
def E_wanted : Env' := mkE [] []
def F_wanted : List D → P := runDef E_wanted 2 8 t_wanted
def t_mended_x1 : T := (.xc [7, 8, 9] (.t (.cons (.n 7) (.cons (.t (.cons (.n 8) (.cons (.n 9) .nil))) .nil))) (.it1 .enum (.v 5)) .nil (.tup (.cons (.v 8) (.cons (.dget (.v 2) (.tup (.cons (.v 4) (.cons (.v 7) .nil))) (.v 9)) .nil))))
def t_mended_b1 : T := (.cons (.asg (.n 6) (.im t_mended_x1)) (.cons (.ex (.app 3 (.o1 .tuple (.v 6)))) .nil))
def t_mended_f1 : T := (.for_ (.t (.cons (.n 4) (.cons (.n 5) .nil))) (.it1 .enum (.v 0)) t_mended_b1)
def t_mended : T := (.cons (.ex (.call 0 (.cons (.v 0) .nil))) (.cons (.ex (.call 1 (.cons (.o1 .len (.o2 .idx (.v 0) (.k (.int 0)))) (.cons (.v 1) .nil)))) (.cons (.asg (.n 2) (.call 2 (.cons (.v 0) (.cons (.v 1) .nil)))) (.cons (.iff (.o2 .isN (.v 2) (.k .non)) (.cons (.ret (.k .non)) .nil) .nil) (.cons (.asg (.n 3) (.mk (.xl .nil))) (.cons t_mended_f1 (.cons (.ret (.o1 .tuple (.v 3))) .nil)))))))
def E_mended : Env' := mkE [F_look_plan, F_look_tells, F_wanted] []
theorem E_mended_F0 : E_mended.F 0 = F_look_plan := rfl
theorem E_mended_F1 : E_mended.F 1 = F_look_tells := rfl
theorem E_mended_F2 : E_mended.F 2 = F_wanted := rfl
def F_mended : List D → P := runDef E_mended 2 10 t_mended
def t_how_many_changed_x1 : T := (.xc [6, 7] (.t (.cons (.n 6) (.cons (.n 7) .nil))) (.it2 .zip (.v 4) (.v 5)) (.o2 .ne (.v 6) (.v 7)) (.k (.int 1)))
def t_how_many_changed_b1 : T := (.cons (.asg (.n 3) (.o2 .add (.v 3) (.o1 .len (.im t_how_many_changed_x1)))) .nil)
def t_how_many_changed_f1 : T := (.for_ (.t (.cons (.n 4) (.cons (.n 5) .nil))) (.it2 .zip (.v 0) (.v 2)) t_how_many_changed_b1)
def t_how_many_changed : T := (.cons (.asg (.n 2) (.call 0 (.cons (.v 0) (.cons (.v 1) .nil)))) (.cons (.iff (.o2 .isN (.v 2) (.k .non)) (.cons (.ret (.k .non)) .nil) .nil) (.cons (.asg (.n 3) (.k (.int 0))) (.cons t_how_many_changed_f1 (.cons (.ret (.v 3)) .nil)))))
def E_how_many_changed : Env' := mkE [F_mended] []
theorem E_how_many_changed_F0 : E_how_many_changed.F 0 = F_mended := rfl
def F_how_many_changed : List D → P := runDef E_how_many_changed 2 8 t_how_many_changed
def t_u_law_wanted_b1 : T := (.cons (.put 2 (.tup (.cons (.v 6) (.cons (.v 7) .nil))) (.im (.x1 .sortedSetI (.o2 .add (.dget (.v 2) (.tup (.cons (.v 6) (.cons (.v 7) .nil))) (.im (.xl .nil))) (.im (.xl (.cons (.v 8) .nil))))))) .nil)
def t_u_law_wanted_f1 : T := (.for_ (.t (.cons (.n 6) (.cons (.n 7) (.cons (.n 8) .nil)))) (.it2 .zip (.v 5) (.v 3)) t_u_law_wanted_b1)
def t_u_law_wanted_b2 : T := (.cons (.asg (.n 5) (.o2 .idx (.call 0 (.cons (.v 0) (.cons (.k (.int 0)) (.cons (.v 3) .nil)))) (.k (.int 0)))) (.cons t_u_law_wanted_f1 .nil))
def t_u_law_wanted_f2 : T := (.for_ (.t (.cons (.n 3) (.cons (.n 4) .nil))) (.it1 .seq (.v 1)) t_u_law_wanted_b2)
def t_u_law_wanted : T := (.cons (.asg (.n 2) (.mkd true .nil)) (.cons t_u_law_wanted_f2 (.cons (.ret (.frz (.v 2))) .nil)))
def E_u_law_wanted : Env' := mkE [F_u_law_walk] []
theorem E_u_law_wanted_F0 : E_u_law_wanted.F 0 = F_u_law_walk := rfl
def F_u_law_wanted : List D → P := runDef E_u_law_wanted 2 9 t_u_law_wanted
def t_u_wall_b1 : T := (.cons .pass .nil)
def t_u_wall_w1 : T := (.whl (.k (.bl true)) t_u_wall_b1)
def t_u_wall : T := (.cons t_u_wall_w1 .nil)
def E_u_wall : Env' := mkE [] []
def F_u_wall : List D → P := runDef E_u_wall 1 1 t_u_wall
def t_u_law_seen : T := (.cons .bad .nil)
def E_u_law_seen : Env' := mkE [] []
def F_u_law_seen : List D → P := runDef E_u_law_seen 1 1 t_u_law_seen
def t_runner_text : T := (.cons .bad (.cons .bad (.cons .bad .nil)))
def E_runner_text : Env' := mkE [] []
def F_runner_text : List D → P := runDef E_runner_text 1 6 t_runner_text
def t_number_in : T := (.cons (.iff (.or (.o2 .ne (.o1 .len (.v 0)) (.k (.int 1))) (.o2 .ninS (.v 0) (.sl (.k (.str "0123456789")) .nil (.v 1)))) (.cons (.rse 6) .nil) .nil) (.cons (.ret (.o1 .intB (.v 0))) .nil))
def E_number_in : Env' := mkE [] []
def F_number_in : List D → P := runDef E_number_in 2 2 t_number_in
def t_do_step : T := (.cons (.iff (.o2 .eq (.v 1) (.k (.str "home"))) (.cons .bad .nil) (.cons (.iff (.o2 .eq (.sl (.v 1) .nil (.k (.int 1))) (.k (.str "="))) (.cons .bad (.cons .bad .nil)) (.cons .bad .nil)) .nil)) .nil)
def E_do_step : Env' := mkE [] []
def F_do_step : List D → P := runDef E_do_step 2 3 t_do_step
def t_read_runner_b1 : T := (.cons (.asg (.n 2) (.o2 .add (.v 2) (.k (.int 1)))) .nil)
def t_read_runner_w1 : T := (.whl (.and (.o2 .lt (.v 2) (.o1 .len (.v 1))) (.o2 .inL (.k (.str ":")) (.o2 .idx (.v 1) (.v 2)))) t_read_runner_b1)
def t_read_runner_b2 : T := (.cons (.iff (.o2 .eq (.sl (.v 4) .nil (.k (.int 2))) (.k (.str "> "))) (.cons (.ex (.call 0 (.cons (.v 3) (.cons (.sl (.v 4) (.k (.int 2)) .nil) .nil)))) .nil) (.cons .bad (.cons (.iff (.or (.o2 .ne (.o1 .len (.v 5)) (.k (.int 2))) (.or (.not (.call 1 (.cons (.o2 .idx (.v 5) (.k (.int 0))) .nil))) (.o2 .eq (.o2 .idx (.v 5) (.k (.int 0))) (.k (.str ""))))) (.cons (.rse 6) .nil) .nil) (.cons .bad .nil)))) .nil)
def t_read_runner_f1 : T := (.for_ (.n 4) (.it1 .seq (.sl (.v 1) (.v 2) (.o1 .neg (.k (.int 1))))) t_read_runner_b2)
def t_read_runner : T := (.cons (.iff (.not (.o1 (.isi .str) (.v 0))) (.cons (.rse 6) .nil) .nil) (.cons .bad (.cons (.asg (.n 2) (.k (.int 0))) (.cons t_read_runner_w1 (.cons .bad (.cons t_read_runner_f1 (.cons (.iff (.o2 .ne (.call 2 (.cons (.v 3) .nil)) (.v 0)) (.cons (.rse 6) .nil) .nil) (.cons (.ret (.v 3)) .nil))))))))
def E_read_runner : Env' := mkE [F_do_step, F_is_deed, F_runner_text] []
theorem E_read_runner_F0 : E_read_runner.F 0 = F_do_step := rfl
theorem E_read_runner_F1 : E_read_runner.F 1 = F_is_deed := rfl
theorem E_read_runner_F2 : E_read_runner.F 2 = F_runner_text := rfl
def F_read_runner : List D → P := runDef E_read_runner 1 6 t_read_runner
def t_u_law_text_b1 : T := (.cons .bad .nil)
def t_u_law_text_f1 : T := (.for_ (.n 2) (.it1 .seq (.v 3)) t_u_law_text_b1)
def t_u_law_text : T := (.cons (.asg (.t (.cons (.n 3) (.cons (.n 4) (.cons (.n 5) (.cons (.n 6) .nil))))) (.v 0)) (.cons (.asg (.n 1) (.k (.str ""))) (.cons t_u_law_text_f1 (.cons .bad (.cons .bad .nil)))))
def E_u_law_text : Env' := mkE [] []
def F_u_law_text : List D → P := runDef E_u_law_text 1 12 t_u_law_text
def t_u_law_stays : T := (.cons .bad (.cons (.iff (.o2 .isN (.v 1) (.k .non)) (.cons (.ret (.k (.bl true))) .nil) .nil) (.cons (.iff (.not (.o1 (.isi .list) (.v 1))) (.cons (.ret (.k (.bl false))) .nil) .nil) (.cons (.asg (.n 2) (.im (.x1 .list (.v 1)))) (.cons (.ex (.app 1 (.k (.str "?")))) (.cons .bad .nil))))))
def E_u_law_stays : Env' := mkE [] []
def F_u_law_stays : List D → P := runDef E_u_law_stays 1 3 t_u_law_stays
def t_u_law_better : T := (.cons (.iff (.o2 .eq (.v 0) (.v 1)) (.cons (.ret (.k (.str "same"))) .nil) .nil) (.cons (.iff (.or (.o2 .isN (.v 0) (.k .non)) (.o2 .isN (.v 1) (.k .non))) (.cons (.ret (.ite (.o2 .isN (.v 1) (.k .non)) (.k (.str "one")) (.k (.str "other")))) .nil) .nil) (.cons (.ret (.ite (.o2 .lt (.v 0) (.v 1)) (.k (.str "one")) (.k (.str "other")))) .nil)))
def E_u_law_better : Env' := mkE [] []
def F_u_law_better : List D → P := runDef E_u_law_better 2 2 t_u_law_better

end Bp

namespace Bp
open PySem L2
/-! ### plain facts about the evaluator -/
theorem at_n {α : Type} (xs : List α) (n : Nat) : atI xs (n : Int) = xs[n]? := by
  unfold atI ixN
  rw [if_pos (by omega)]
  by_cases h : n < xs.length
  · rw [if_pos (by omega)]; simp
  · rw [if_neg (by omega)]
    simp only [Option.bind]
    rw [List.getElem?_eq_none (by omega)]
theorem at_0 {α : Type} (xs : List α) : atI xs 0 = xs[0]? := at_n xs 0
theorem at_1 {α : Type} (xs : List α) : atI xs 1 = xs[1]? := at_n xs 1
theorem at_2 {α : Type} (xs : List α) : atI xs 2 = xs[2]? := at_n xs 2
theorem at_l {α : Type} (xs : List α) : atI xs (-1) = xs.getLast? := by
  cases xs with
  | nil => rfl
  | cons x l =>
    unfold atI ixN
    rw [if_neg (by omega), if_pos (by simp only [List.length_cons]; omega)]
    simp only [Option.bind]
    rw [List.getLast?_eq_getElem?]
    congr 1
    simp only [List.length_cons]
    omega
theorem at_i {α : Type} (d : α) {xs : List α} {i : Int} (h0 : 0 ≤ i) (h : i < xs.length) : atI xs i = some (xs.getD i.toNat d) := by
  have e : i = (i.toNat : Int) := by omega
  have h' : i.toNat < xs.length := by omega
  rw [e, at_n, Int.toNat_natCast, List.getD_eq_getElem?_getD, List.getElem?_eq_getElem h']
  rfl
theorem eqDs_map {α : Type} [DecidableEq α] {f : α → D} (hf : ∀ x y, eqD (f x) (f y) = decide (x = y)) : ∀ xs ys : List α, eqDs (xs.map f) (ys.map f) = decide (xs = ys)
  | [], [] => rfl
  | [], y :: ys => rfl
  | x :: xs, [] => rfl
  | x :: xs, y :: ys => by
    show (eqD (f x) (f y) && eqDs (xs.map f) (ys.map f)) = _
    rw [hf, eqDs_map hf xs ys]
    simp [Bool.decide_and]
theorem eqD_lst (xs ys : List D) : eqD (.lst xs) (.lst ys) = eqDs xs ys := rfl
theorem eqD_tup (xs ys : List D) : eqD (.tup xs) (.tup ys) = eqDs xs ys := rfl
theorem eqD_int (i j : Int) : eqD (.int i) (.int j) = decide (i = j) := by
  show (i == j) = _
  by_cases h : i = j <;> simp [h]
theorem eqD_nat (i j : Nat) : eqD (.int i) (.int j) = decide (i = j) := by
  rw [eqD_int, decide_eq_decide]
  omega
theorem eqD_str (i j : Str) : eqD (.str i) (.str j) = decide (i = j) := by
  show (i == j) = _
  by_cases h : i = j <;> simp [h]
theorem eqD_scr_nil (ns : List Int) : eqD (.scr ns) (.lst []) = decide (ns = []) := by
  cases ns <;> rfl
theorem all_map_true {α : Type} {f : α → D} {p : D → Bool} (h : ∀ x, p (f x) = true) (xs : List α) : (xs.map f).all p = true := by
  rw [List.all_map, List.all_eq_true]
  exact fun x _ => h x
/-- a loop by what holds at each turn -/
theorem forL_inv {tg : Tg} {b : Rho → Sto → SR} (Inv : Nat → Rho → Sto → Prop) : ∀ (ds : List D) (k : Nat) (r : Rho) (S : Sto), Inv k r S →
    (∀ i d r S, ds[i]? = some d → Inv (k + i) r S → ∃ r1 r2 S2, setT tg d r = some r1 ∧ (b r1 S = .nx r2 S2 ∨ b r1 S = .ct r2 S2) ∧ Inv (k + i + 1) r2 S2) →
    ∃ r' S', forL tg b ds r S = .nx r' S' ∧ Inv (k + ds.length) r' S'
  | [], k, r, S, h0, _ => ⟨r, S, rfl, h0⟩
  | d :: ds, k, r, S, h0, h => by
    obtain ⟨r1, r2, S2, e1, e2, h1⟩ := h 0 d r S rfl h0
    have ih := forL_inv Inv ds (k + 1) r2 S2 h1 (fun i d r S hd hi => by
      have := h (i + 1) d r S (by simpa using hd) (by rw [show k + (i + 1) = k + 1 + i by omega]; exact hi)
      rw [show k + (i + 1) = k + 1 + i by omega] at this
      exact this)
    obtain ⟨r', S', e3, h2⟩ := ih
    refine ⟨r', S', ?_, by rw [show k + (d :: ds).length = k + 1 + ds.length by simp only [List.length_cons]; omega]; exact h2⟩
    unfold forL
    rw [e1]
    rcases e2 with e2 | e2 <;> simp only [e2, e3]
/-- a comprehension whose parts change nothing -/
theorem compL_filterMap {vs : List Nat} {tg : Tg} {c e : Rho → Sto → R D} {r : Rho} {S : Sto} (p : D → Bool) (g : D → D) : ∀ (ds acc : List D), acc.length + ds.length ≤ sizeLine →
    (∀ d ∈ ds, ∃ r1, setT tg d (wipeR r vs) = some r1 ∧ c r1 S = .ok (.bl (p d)) S ∧ (p d = true → e r1 S = .ok (g d) S)) → compL vs tg c e r ds S acc = .ok (acc ++ (ds.filter p).map g) S
  | [], acc, _, _ => by simp [compL]
  | d :: ds, acc, hl, h => by
    obtain ⟨r1, e1, e2, e3⟩ := h d (by simp)
    have h' := fun d' hd' => h d' (List.mem_cons_of_mem _ hd')
    simp only [List.length_cons] at hl
    unfold compL
    rw [e1]
    simp only [e2]
    cases hp : p d with
    | true =>
      simp only [e3 hp]
      rw [if_pos (by omega), compL_filterMap p g ds (acc ++ [g d]) (by simp only [List.length_append, List.length_cons, List.length_nil]; omega) h']
      simp [List.filter_cons, hp]
    | false =>
      simp only
      rw [compL_filterMap p g ds acc (by omega) h']
      simp [List.filter_cons, hp]
theorem compL_map {vs : List Nat} {tg : Tg} {e : Rho → Sto → R D} {r : Rho} {S : Sto} (g : D → D) (ds : List D) (hl : ds.length ≤ sizeLine) (h : ∀ d ∈ ds, ∃ r1, setT tg d (wipeR r vs) = some r1 ∧ e r1 S = .ok (g d) S) :
    compL vs tg (fun _ S => .ok (.bl true) S) e r ds S [] = .ok (ds.map g) S := by
  have := compL_filterMap (vs := vs) (tg := tg) (c := fun _ S => .ok (.bl true) S) (e := e) (r := r) (S := S) (fun _ => true) g ds [] (by simpa using hl) (fun d hd => by
    obtain ⟨r1, h1, h2⟩ := h d hd
    exact ⟨r1, h1, rfl, fun _ => h2⟩)
  rw [List.nil_append, List.filter_eq_self.mpr (fun _ _ => rfl)] at this
  exact this
theorem wipeR_nil (r : Rho) : wipeR r [] = r := rfl
theorem dBools_bl (bs : List Bool) : dBools (bs.map D.bl) = some bs := by
  induction bs with
  | nil => rfl
  | cons b bs ih => simp [dBools, ih]
theorem dInts_int (bs : List Int) : dInts (bs.map D.int) = some bs := by
  induction bs with
  | nil => rfl
  | cons b bs ih => simp [dInts, ih]
theorem rangeD_get {n : Int} {i : Nat} {d : D} (h : (rangeD n)[i]? = some d) : i < n.toNat ∧ d = .int (i : Nat) := by
  unfold rangeD at h
  rw [List.getElem?_map] at h
  cases e : (List.range n.toNat)[i]? with
  | none => rw [e] at h; cases h
  | some k =>
    rw [e] at h
    have h1 := List.getElem?_eq_some_iff.mp e
    obtain ⟨h2, h3⟩ := h1
    simp only [List.length_range] at h2
    simp only [List.getElem_range] at h3
    subst h3
    cases h
    exact ⟨h2, rfl⟩
theorem rangeD_len (n : Int) : (rangeD n).length = n.toNat := by simp [rangeD]
theorem rangeD_mem {n : Int} {d : D} (h : d ∈ rangeD n) : ∃ i : Nat, i < n.toNat ∧ d = .int (i : Nat) := by
  unfold rangeD at h
  obtain ⟨i, h1, h2⟩ := List.mem_map.mp h
  exact ⟨i, by simpa using h1, h2.symm⟩
theorem set_end {α : Type} (A : List α) (x y : α) : (A ++ [x]).set A.length y = A ++ [y] := by simp
theorem get_end {α : Type} (A : List α) (x : α) : (A ++ [x])[A.length]? = some x := by simp
theorem map_range_succ {α : Type} (f : Nat → α) (n : Nat) : (List.range (n + 1)).map f = (List.range n).map f ++ [f n] := by rw [List.range_succ, List.map_append]; rfl
theorem sizeLine_big : 16777216 ≤ sizeLine := by decide
/-! ### drawing -/
def cell (ns : List Int) (k : Int) : Int := if k < ns.length then ns.getD k.toNat 0 else if ns = [] then 0 else ns.getD (k % ns.length).toNat 0 * 31 + k
def drawn (ns : List Int) (k : Int) : Int := (cell ns k + 6151 * (k + 1)) * 40692 % 2147483399
def pick (ns : List Int) (k many : Int) : Int := (drawn ns k * drawn ns k + drawn ns k / 31) % 2147483629 % many
theorem pick_lt (ns : List Int) (k : Int) {many : Int} (h : 0 < many) : 0 ≤ pick ns k many ∧ pick ns k many < many := ⟨Int.emod_nonneg _ (by omega), Int.emod_lt_of_pos _ h⟩
end Bp

namespace Bp
open PySem L2
theorem res_non (S : Sto) : res S .non = .non := rfl
theorem res_bl (S : Sto) (b : Bool) : res S (.bl b) = (.bl b) := rfl
theorem res_int (S : Sto) (i : Int) : res S (.int i) = (.int i) := rfl
theorem res_str (S : Sto) (x : Str) : res S (.str x) = (.str x) := rfl
theorem res_tup (S : Sto) (xs : List D) : res S (.tup xs) = (.tup xs) := rfl
theorem res_lst (S : Sto) (xs : List D) : res S (.lst xs) = (.lst xs) := rfl
theorem res_scr (S : Sto) (ns : List Int) : res S (.scr ns) = (.scr ns) := rfl
theorem res_dK (S : Sto) (ks : List Key) (vs : List D) : res S (.dK ks vs) = (.dK ks vs) := rfl
theorem bind_ok {α β : Type} (a : α) (S : Sto) (f : α → Sto → R β) : (R.ok a S).bind f = f a S := rfl
theorem bind_ex {α β : Type} (c : Nat) (S : Sto) (f : α → Sto → R β) : (R.ex c S : R α).bind f = .ex c S := rfl
theorem bind_no {α β : Type} (f : α → Sto → R β) : (R.no : R α).bind f = .no := rfl
theorem opt_some {α : Type} (a : α) (S : Sto) : R.opt (some a) S = .ok a S := rfl
theorem opt_none {α : Type} (S : Sto) : R.opt (none : Option α) S = .no := rfl
theorem v_add (i j : Int) : ev2 .add (.int i) (.int j) = some (.int (i + j)) := rfl
theorem v_addL (xs ys : List D) : ev2 .add (.lst xs) (.lst ys) = if xs.length + ys.length ≤ sizeLine then some (.lst (xs ++ ys)) else none := rfl
theorem v_addT (xs ys : List D) : ev2 .add (.tup xs) (.tup ys) = if xs.length + ys.length ≤ sizeLine then some (.tup (xs ++ ys)) else none := rfl
theorem v_addS (x y : Str) : ev2 .add (.str x) (.str y) = if x.length + y.length ≤ sizeLine then some (.str (x ++ y)) else none := rfl
theorem v_sub (i j : Int) : ev2 .sub (.int i) (.int j) = some (.int (i - j)) := rfl
theorem v_mul (i j : Int) : ev2 .mul (.int i) (.int j) = if mulOk i j then some (.int (i * j)) else none := rfl
theorem v_mulL (xs : List D) (k : Int) : ev2 .mul (.lst xs) (.int k) = if -(2 ^ 63) ≤ k ∧ k < 2 ^ 63 ∧ xs.length * k.toNat ≤ sizeLine then some (.lst (List.replicate k.toNat xs).flatten) else none := rfl
theorem v_fdiv (i j : Int) : ev2 .fdiv (.int i) (.int j) = if 0 < j ∧ j < 1073741824 then some (.int (i / j)) else none := rfl
theorem v_mod (i j : Int) : ev2 .mod (.int i) (.int j) = if 0 < j then some (.int (i % j)) else none := rfl
theorem v_eq (a b : D) : ev2 .eq a b = (eqB a b).map .bl := by cases a <;> cases b <;> rfl
theorem v_ne (a b : D) : ev2 .ne a b = (eqB a b).map fun r => .bl (!r) := by cases a <;> cases b <;> rfl
theorem v_lt (i j : Int) : ev2 .lt (.int i) (.int j) = some (.bl (decide (i < j))) := rfl
theorem v_le (i j : Int) : ev2 .le (.int i) (.int j) = some (.bl (decide (i ≤ j))) := rfl
theorem v_gt (i j : Int) : ev2 .gt (.int i) (.int j) = some (.bl (decide (j < i))) := rfl
theorem v_ge (i j : Int) : ev2 .ge (.int i) (.int j) = some (.bl (decide (j ≤ i))) := rfl
theorem v_idxL (xs : List D) (i : Int) : ev2 .idx (.lst xs) (.int i) = atI xs i := rfl
theorem v_idxT (xs : List D) (i : Int) : ev2 .idx (.tup xs) (.int i) = atI xs i := rfl
theorem v_idxS (ns : List Int) (i : Int) : ev2 .idx (.scr ns) (.int i) = (atI ns i).map .int := rfl
theorem v_inS (x y : Str) : ev2 .inS (.str x) (.str y) = some (.bl (inStr x y)) := rfl
theorem v_ninS (x y : Str) : ev2 .ninS (.str x) (.str y) = some (.bl (!inStr x y)) := rfl
theorem v_inL (x : D) (ys : List D) : ev2 .inL x (.lst ys) = (inSeq x ys).map .bl := by cases x <;> rfl
theorem v_ninL (x : D) (ys : List D) : ev2 .ninL x (.lst ys) = (inSeq x ys).map fun r => .bl (!r) := by cases x <;> rfl
theorem v_isN_non : ev2 .isN .non .non = some (.bl true) := rfl
theorem v_nisN_non : ev2 .nisN .non .non = some (.bl false) := rfl
theorem v_isN_bl (b : Bool) : ev2 .isN (.bl b) .non = some (.bl false) := rfl
theorem v_nisN_bl (b : Bool) : ev2 .nisN (.bl b) .non = some (.bl true) := rfl
theorem v_isN_int (i : Int) : ev2 .isN (.int i) .non = some (.bl false) := rfl
theorem v_nisN_int (i : Int) : ev2 .nisN (.int i) .non = some (.bl true) := rfl
theorem v_isN_str (x : Str) : ev2 .isN (.str x) .non = some (.bl false) := rfl
theorem v_nisN_str (x : Str) : ev2 .nisN (.str x) .non = some (.bl true) := rfl
theorem v_isN_tup (xs : List D) : ev2 .isN (.tup xs) .non = some (.bl false) := rfl
theorem v_nisN_tup (xs : List D) : ev2 .nisN (.tup xs) .non = some (.bl true) := rfl
theorem v_isN_lst (xs : List D) : ev2 .isN (.lst xs) .non = some (.bl false) := rfl
theorem v_nisN_lst (xs : List D) : ev2 .nisN (.lst xs) .non = some (.bl true) := rfl
theorem v_isN_scr (ns : List Int) : ev2 .isN (.scr ns) .non = some (.bl false) := rfl
theorem v_nisN_scr (ns : List Int) : ev2 .nisN (.scr ns) .non = some (.bl true) := rfl
theorem v_isN_dK (ks : List Key) (vs : List D) : ev2 .isN (.dK ks vs) .non = some (.bl false) := rfl
theorem v_nisN_dK (ks : List Key) (vs : List D) : ev2 .nisN (.dK ks vs) .non = some (.bl true) := rfl
theorem v_isB (a b : Bool) : ev2 .isB (.bl a) (.bl b) = some (.bl (a == b)) := rfl
theorem v_nisB (a b : Bool) : ev2 .nisB (.bl a) (.bl b) = some (.bl (!(a == b))) := rfl
theorem u_lenL (xs : List D) : ev1 .len (.lst xs) = some (.int (xs.length : Nat)) := rfl
theorem u_lenT (xs : List D) : ev1 .len (.tup xs) = some (.int (xs.length : Nat)) := rfl
theorem u_lenC (ns : List Int) : ev1 .len (.scr ns) = some (.int (ns.length : Nat)) := rfl
theorem u_lenD (ks : List Key) (vs : List D) : ev1 .len (.dK ks vs) = some (.int (ks.length : Nat)) := rfl
theorem u_lenS (x : Str) (h : x.length ≤ sizeLine) : ev1 .len (.str x) = some (.int (x.length : Nat)) := by simp [ev1, lenD, h]
theorem u_neg (i : Int) : ev1 .neg (.int i) = some (.int (-i)) := rfl
theorem u_all (xs : List D) : ev1 .allB (.lst xs) = (dBools xs).map fun bs => .bl (bs.all id) := rfl
theorem u_any (xs : List D) : ev1 .anyB (.lst xs) = (dBools xs).map fun bs => .bl (bs.any id) := rfl
theorem u_sum (xs : List D) : ev1 .sum (.lst xs) = (dInts xs).map fun ns => .int ns.sum := rfl
theorem u_tupL (xs : List D) : ev1 .tuple (.lst xs) = some (.tup xs) := rfl
theorem u_tupT (xs : List D) : ev1 .tuple (.tup xs) = some (.tup xs) := rfl
theorem u_tupR (n : Int) : ev1 .tupRange (.int n) = if 0 ≤ n ∧ n ≤ 1000 then some (.tup (rangeD n)) else none := rfl
theorem u_intB (b : Bool) : ev1 .intB (.bl b) = some (.int (if b then 1 else 0)) := rfl
theorem u_isi_int_non : ev1 (.isi .int) .non = some (.bl false) := rfl
theorem u_isi_int_bl (b : Bool) : ev1 (.isi .int) (.bl b) = some (.bl true) := rfl
theorem u_isi_int_int (i : Int) : ev1 (.isi .int) (.int i) = some (.bl true) := rfl
theorem u_isi_int_str (x : Str) : ev1 (.isi .int) (.str x) = some (.bl false) := rfl
theorem u_isi_int_tup (xs : List D) : ev1 (.isi .int) (.tup xs) = some (.bl false) := rfl
theorem u_isi_int_lst (xs : List D) : ev1 (.isi .int) (.lst xs) = some (.bl false) := rfl
theorem u_isi_int_scr (ns : List Int) : ev1 (.isi .int) (.scr ns) = some (.bl false) := rfl
theorem u_isi_int_dK (ks : List Key) (vs : List D) : ev1 (.isi .int) (.dK ks vs) = some (.bl false) := rfl
theorem u_isi_bool_non : ev1 (.isi .bool) .non = some (.bl false) := rfl
theorem u_isi_bool_bl (b : Bool) : ev1 (.isi .bool) (.bl b) = some (.bl true) := rfl
theorem u_isi_bool_int (i : Int) : ev1 (.isi .bool) (.int i) = some (.bl false) := rfl
theorem u_isi_bool_str (x : Str) : ev1 (.isi .bool) (.str x) = some (.bl false) := rfl
theorem u_isi_bool_tup (xs : List D) : ev1 (.isi .bool) (.tup xs) = some (.bl false) := rfl
theorem u_isi_bool_lst (xs : List D) : ev1 (.isi .bool) (.lst xs) = some (.bl false) := rfl
theorem u_isi_bool_scr (ns : List Int) : ev1 (.isi .bool) (.scr ns) = some (.bl false) := rfl
theorem u_isi_bool_dK (ks : List Key) (vs : List D) : ev1 (.isi .bool) (.dK ks vs) = some (.bl false) := rfl
theorem u_isi_str_non : ev1 (.isi .str) .non = some (.bl false) := rfl
theorem u_isi_str_bl (b : Bool) : ev1 (.isi .str) (.bl b) = some (.bl false) := rfl
theorem u_isi_str_int (i : Int) : ev1 (.isi .str) (.int i) = some (.bl false) := rfl
theorem u_isi_str_str (x : Str) : ev1 (.isi .str) (.str x) = some (.bl true) := rfl
theorem u_isi_str_tup (xs : List D) : ev1 (.isi .str) (.tup xs) = some (.bl false) := rfl
theorem u_isi_str_lst (xs : List D) : ev1 (.isi .str) (.lst xs) = some (.bl false) := rfl
theorem u_isi_str_scr (ns : List Int) : ev1 (.isi .str) (.scr ns) = some (.bl false) := rfl
theorem u_isi_str_dK (ks : List Key) (vs : List D) : ev1 (.isi .str) (.dK ks vs) = some (.bl false) := rfl
theorem u_isi_tuple_non : ev1 (.isi .tuple) .non = some (.bl false) := rfl
theorem u_isi_tuple_bl (b : Bool) : ev1 (.isi .tuple) (.bl b) = some (.bl false) := rfl
theorem u_isi_tuple_int (i : Int) : ev1 (.isi .tuple) (.int i) = some (.bl false) := rfl
theorem u_isi_tuple_str (x : Str) : ev1 (.isi .tuple) (.str x) = some (.bl false) := rfl
theorem u_isi_tuple_tup (xs : List D) : ev1 (.isi .tuple) (.tup xs) = some (.bl true) := rfl
theorem u_isi_tuple_lst (xs : List D) : ev1 (.isi .tuple) (.lst xs) = some (.bl false) := rfl
theorem u_isi_tuple_scr (ns : List Int) : ev1 (.isi .tuple) (.scr ns) = some (.bl false) := rfl
theorem u_isi_tuple_dK (ks : List Key) (vs : List D) : ev1 (.isi .tuple) (.dK ks vs) = some (.bl false) := rfl
theorem u_isi_list_non : ev1 (.isi .list) .non = some (.bl false) := rfl
theorem u_isi_list_bl (b : Bool) : ev1 (.isi .list) (.bl b) = some (.bl false) := rfl
theorem u_isi_list_int (i : Int) : ev1 (.isi .list) (.int i) = some (.bl false) := rfl
theorem u_isi_list_str (x : Str) : ev1 (.isi .list) (.str x) = some (.bl false) := rfl
theorem u_isi_list_tup (xs : List D) : ev1 (.isi .list) (.tup xs) = some (.bl false) := rfl
theorem u_isi_list_lst (xs : List D) : ev1 (.isi .list) (.lst xs) = some (.bl true) := rfl
theorem u_isi_list_scr (ns : List Int) : ev1 (.isi .list) (.scr ns) = some (.bl true) := rfl
theorem u_isi_list_dK (ks : List Key) (vs : List D) : ev1 (.isi .list) (.dK ks vs) = some (.bl false) := rfl
theorem u_isis_lt_non : ev1 (.isis [.list, .tuple]) .non = some (.bl false) := rfl
theorem u_isis_lt_bl (b : Bool) : ev1 (.isis [.list, .tuple]) (.bl b) = some (.bl false) := rfl
theorem u_isis_lt_int (i : Int) : ev1 (.isis [.list, .tuple]) (.int i) = some (.bl false) := rfl
theorem u_isis_lt_str (x : Str) : ev1 (.isis [.list, .tuple]) (.str x) = some (.bl false) := rfl
theorem u_isis_lt_tup (xs : List D) : ev1 (.isis [.list, .tuple]) (.tup xs) = some (.bl true) := rfl
theorem u_isis_lt_lst (xs : List D) : ev1 (.isis [.list, .tuple]) (.lst xs) = some (.bl true) := rfl
theorem u_isis_lt_scr (ns : List Int) : ev1 (.isis [.list, .tuple]) (.scr ns) = some (.bl true) := rfl
theorem u_isis_lt_dK (ks : List Key) (vs : List D) : ev1 (.isis [.list, .tuple]) (.dK ks vs) = some (.bl false) := rfl
theorem w_listL (xs : List D) : evX1 .list (.lst xs) = some xs := rfl
theorem w_listT (xs : List D) : evX1 .list (.tup xs) = some xs := rfl
theorem w_listR (n : Int) : evX1 .listRange (.int n) = if 0 ≤ n ∧ n ≤ 1000 then some (rangeD n) else none := rfl
theorem w_srtS (xs : List D) : evX1 .sortedSetI (.lst xs) = (dInts xs).bind fun ns => if ns.length < 60 then some ((setI ns).map .int) else none := rfl
theorem w_srt (xs : List D) : evX1 .sortedI (.lst xs) = (dInts xs).bind fun ns => if ns.length < 64 then some ((sortI ns).map .int) else none := rfl
theorem y_seqL (xs : List D) : evI1 .seq (.lst xs) = some xs := rfl
theorem y_seqT (xs : List D) : evI1 .seq (.tup xs) = some xs := rfl
theorem y_rng (n : Int) : evI1 .range1 (.int n) = if smallI n then some (rangeD n) else none := rfl
theorem y_chars (x : Str) : evI1 .chars (.str x) = some (x.cps.toList.map fun c => .str ⟨#[c]⟩) := rfl
theorem s_n (i : Nat) (d : D) (r : Rho) : setT (.n i) d r = if i < r.length then some (r.set i (some d)) else none := rfl
theorem s_t (l : Tg) (ds : List D) (r : Rho) : setT (.t l) (.tup ds) r = setT.setTs l ds r := rfl
theorem s_nil (r : Rho) : setT.setTs .nil [] r = some r := rfl
theorem s_cons (a b : Tg) (d : D) (ds : List D) (r : Rho) : setT.setTs (.cons a b) (d :: ds) r = (setT a d r).bind fun r' => setT.setTs b ds r' := rfl
theorem c_F0 (a : List D → P) (l : List (List D → P)) (g : List D) : (mkE (a :: l) g).F 0 = a := rfl
theorem c_F1 (a b : List D → P) (l : List (List D → P)) (g : List D) : (mkE (a :: b :: l) g).F 1 = b := rfl
theorem c_F2 (a0 a1 a2 : List D → P) (l : List (List D → P)) (g : List D) : (mkE (a0 :: a1 :: a2 :: l) g).F 2 = a2 := rfl
theorem c_F3 (a0 a1 a2 a3 : List D → P) (l : List (List D → P)) (g : List D) : (mkE (a0 :: a1 :: a2 :: a3 :: l) g).F 3 = a3 := rfl
theorem c_F4 (a0 a1 a2 a3 a4 : List D → P) (l : List (List D → P)) (g : List D) : (mkE (a0 :: a1 :: a2 :: a3 :: a4 :: l) g).F 4 = a4 := rfl
theorem c_F5 (a0 a1 a2 a3 a4 a5 : List D → P) (l : List (List D → P)) (g : List D) : (mkE (a0 :: a1 :: a2 :: a3 :: a4 :: a5 :: l) g).F 5 = a5 := rfl
theorem c_F6 (a0 a1 a2 a3 a4 a5 a6 : List D → P) (l : List (List D → P)) (g : List D) : (mkE (a0 :: a1 :: a2 :: a3 :: a4 :: a5 :: a6 :: l) g).F 6 = a6 := rfl
theorem c_F7 (a0 a1 a2 a3 a4 a5 a6 a7 : List D → P) (l : List (List D → P)) (g : List D) : (mkE (a0 :: a1 :: a2 :: a3 :: a4 :: a5 :: a6 :: a7 :: l) g).F 7 = a7 := rfl
theorem c_F8 (a0 a1 a2 a3 a4 a5 a6 a7 a8 : List D → P) (l : List (List D → P)) (g : List D) : (mkE (a0 :: a1 :: a2 :: a3 :: a4 :: a5 :: a6 :: a7 :: a8 :: l) g).F 8 = a8 := rfl
theorem c_F9 (a0 a1 a2 a3 a4 a5 a6 a7 a8 a9 : List D → P) (l : List (List D → P)) (g : List D) : (mkE (a0 :: a1 :: a2 :: a3 :: a4 :: a5 :: a6 :: a7 :: a8 :: a9 :: l) g).F 9 = a9 := rfl
theorem c_F10 (a0 a1 a2 a3 a4 a5 a6 a7 a8 a9 a10 : List D → P) (l : List (List D → P)) (g : List D) : (mkE (a0 :: a1 :: a2 :: a3 :: a4 :: a5 :: a6 :: a7 :: a8 :: a9 :: a10 :: l) g).F 10 = a10 := rfl
theorem c_F11 (a0 a1 a2 a3 a4 a5 a6 a7 a8 a9 a10 a11 : List D → P) (l : List (List D → P)) (g : List D) : (mkE (a0 :: a1 :: a2 :: a3 :: a4 :: a5 :: a6 :: a7 :: a8 :: a9 :: a10 :: a11 :: l) g).F 11 = a11 := rfl
theorem c_G0 (a0 : D) (l : List (List D → P)) (g : List D) : (mkE l (a0 :: g)).G 0 = a0 := rfl
theorem c_G1 (a0 a1 : D) (l : List (List D → P)) (g : List D) : (mkE l (a0 :: a1 :: g)).G 1 = a1 := rfl
theorem c_G2 (a0 a1 a2 : D) (l : List (List D → P)) (g : List D) : (mkE l (a0 :: a1 :: a2 :: g)).G 2 = a2 := rfl
theorem c_G3 (a0 a1 a2 a3 : D) (l : List (List D → P)) (g : List D) : (mkE l (a0 :: a1 :: a2 :: a3 :: g)).G 3 = a3 := rfl
theorem c_G4 (a0 a1 a2 a3 a4 : D) (l : List (List D → P)) (g : List D) : (mkE l (a0 :: a1 :: a2 :: a3 :: a4 :: g)).G 4 = a4 := rfl
theorem nilT : T.nil.isNil = true := rfl
theorem nil_v (i : Nat) : (T.v i).isNil = false := rfl
theorem nil_k (d : D) : (T.k d).isNil = false := rfl
theorem nil_g (i : Nat) : (T.g i).isNil = false := rfl
theorem nil_o1 (o : O1) (a : T) : (T.o1 o a).isNil = false := rfl
theorem nil_o2 (o : O2) (a b : T) : (T.o2 o a b).isNil = false := rfl
theorem nil_and (a b : T) : (T.and a b).isNil = false := rfl
theorem nil_or (a b : T) : (T.or a b).isNil = false := rfl
theorem nil_not (a : T) : (T.not a).isNil = false := rfl
theorem nil_ch (o p : O2) (a b c : T) : (T.ch o p a b c).isNil = false := rfl
theorem nil_call (f : Nat) (as : T) : (T.call f as).isNil = false := rfl
theorem kn_non : okN 60 .non = true := rfl
theorem km_non : cmpN 60 .non = true := rfl
theorem kn_bl (b : Bool) : okN 60 (.bl b) = true := rfl
theorem km_bl (b : Bool) : cmpN 60 (.bl b) = true := rfl
theorem kn_int (i : Int) : okN 60 (.int i) = true := rfl
theorem km_int (i : Int) : cmpN 60 (.int i) = true := rfl
theorem kn_str (x : Str) : okN 60 (.str x) = true := rfl
theorem km_str (x : Str) : cmpN 60 (.str x) = true := rfl
theorem kn_scr (ns : List Int) : okN 60 (.scr ns) = true := rfl
theorem km_scr (ns : List Int) : cmpN 60 (.scr ns) = true := rfl
theorem kn_tup (xs : List D) : okN 60 (.tup xs) = xs.all (okN 59) := rfl
theorem kn_lst (xs : List D) : okN 60 (.lst xs) = xs.all (okN 59) := rfl
theorem km_tup (xs : List D) : cmpN 60 (.tup xs) = xs.all (cmpN 59) := rfl
theorem km_lst (xs : List D) : cmpN 60 (.lst xs) = xs.all (cmpN 59) := rfl
end Bp

namespace Bp
open PySem L2
theorem at_map {α β : Type} (xs : List α) (f : α → β) (i : Int) : atI (xs.map f) i = (atI xs i).map f := by
  unfold atI
  rw [List.length_map]
  cases ixN xs.length i with
  | none => rfl
  | some j => simp
abbrev Step := Int × Str
abbrev Plan := List (List Step)
def dStep (p : Step) : D := .tup [.int p.1, .str p.2]
def dMode (l : (List Step)) : D := .tup (l.map dStep)
def dPlan (l : Plan) : D := .tup (l.map dMode)
def stL (l : (List Step)) : D := .lst (l.map dStep)
def iL (l : (List Int)) : D := .lst (l.map D.int)
def iT (l : (List Int)) : D := .tup (l.map D.int)
def sL (l : (List Str)) : D := .lst (l.map D.str)
def sT (l : (List Str)) : D := .tup (l.map D.str)
theorem e_res_dPlan (S : Sto) (l : Plan) : res S (dPlan l) = dPlan l := rfl
theorem e_len_dPlan (l : Plan) : ev1 .len (dPlan l) = some (.int (l.length : Nat)) := by simp [ev1, lenD, dPlan]
theorem e_idx_dPlan (l : Plan) (i : Int) : ev2 .idx (dPlan l) (.int i) = (atI l i).map dMode := at_map _ _ _
theorem e_seq_dPlan (l : Plan) : evI1 .seq (dPlan l) = some (l.map dMode) := rfl
theorem e_isi_int_dPlan (l : Plan) : ev1 (.isi .int) (dPlan l) = some (.bl false) := rfl
theorem e_isi_bool_dPlan (l : Plan) : ev1 (.isi .bool) (dPlan l) = some (.bl false) := rfl
theorem e_isi_str_dPlan (l : Plan) : ev1 (.isi .str) (dPlan l) = some (.bl false) := rfl
theorem e_isi_tuple_dPlan (l : Plan) : ev1 (.isi .tuple) (dPlan l) = some (.bl true) := rfl
theorem e_isi_list_dPlan (l : Plan) : ev1 (.isi .list) (dPlan l) = some (.bl false) := rfl
theorem e_isis_dPlan (l : Plan) : ev1 (.isis [.list, .tuple]) (dPlan l) = some (.bl true) := rfl
theorem e_isN_dPlan (l : Plan) : ev2 .isN (dPlan l) .non = some (.bl false) := rfl
theorem e_nisN_dPlan (l : Plan) : ev2 .nisN (dPlan l) .non = some (.bl true) := rfl
theorem e_res_dMode (S : Sto) (l : (List Step)) : res S (dMode l) = dMode l := rfl
theorem e_len_dMode (l : (List Step)) : ev1 .len (dMode l) = some (.int (l.length : Nat)) := by simp [ev1, lenD, dMode]
theorem e_idx_dMode (l : (List Step)) (i : Int) : ev2 .idx (dMode l) (.int i) = (atI l i).map dStep := at_map _ _ _
theorem e_seq_dMode (l : (List Step)) : evI1 .seq (dMode l) = some (l.map dStep) := rfl
theorem e_isi_int_dMode (l : (List Step)) : ev1 (.isi .int) (dMode l) = some (.bl false) := rfl
theorem e_isi_bool_dMode (l : (List Step)) : ev1 (.isi .bool) (dMode l) = some (.bl false) := rfl
theorem e_isi_str_dMode (l : (List Step)) : ev1 (.isi .str) (dMode l) = some (.bl false) := rfl
theorem e_isi_tuple_dMode (l : (List Step)) : ev1 (.isi .tuple) (dMode l) = some (.bl true) := rfl
theorem e_isi_list_dMode (l : (List Step)) : ev1 (.isi .list) (dMode l) = some (.bl false) := rfl
theorem e_isis_dMode (l : (List Step)) : ev1 (.isis [.list, .tuple]) (dMode l) = some (.bl true) := rfl
theorem e_isN_dMode (l : (List Step)) : ev2 .isN (dMode l) .non = some (.bl false) := rfl
theorem e_nisN_dMode (l : (List Step)) : ev2 .nisN (dMode l) .non = some (.bl true) := rfl
theorem e_res_stL (S : Sto) (l : (List Step)) : res S (stL l) = stL l := rfl
theorem e_len_stL (l : (List Step)) : ev1 .len (stL l) = some (.int (l.length : Nat)) := by simp [ev1, lenD, stL]
theorem e_idx_stL (l : (List Step)) (i : Int) : ev2 .idx (stL l) (.int i) = (atI l i).map dStep := at_map _ _ _
theorem e_seq_stL (l : (List Step)) : evI1 .seq (stL l) = some (l.map dStep) := rfl
theorem e_isi_int_stL (l : (List Step)) : ev1 (.isi .int) (stL l) = some (.bl false) := rfl
theorem e_isi_bool_stL (l : (List Step)) : ev1 (.isi .bool) (stL l) = some (.bl false) := rfl
theorem e_isi_str_stL (l : (List Step)) : ev1 (.isi .str) (stL l) = some (.bl false) := rfl
theorem e_isi_tuple_stL (l : (List Step)) : ev1 (.isi .tuple) (stL l) = some (.bl false) := rfl
theorem e_isi_list_stL (l : (List Step)) : ev1 (.isi .list) (stL l) = some (.bl true) := rfl
theorem e_isis_stL (l : (List Step)) : ev1 (.isis [.list, .tuple]) (stL l) = some (.bl true) := rfl
theorem e_isN_stL (l : (List Step)) : ev2 .isN (stL l) .non = some (.bl false) := rfl
theorem e_nisN_stL (l : (List Step)) : ev2 .nisN (stL l) .non = some (.bl true) := rfl
theorem e_res_iL (S : Sto) (l : (List Int)) : res S (iL l) = iL l := rfl
theorem e_len_iL (l : (List Int)) : ev1 .len (iL l) = some (.int (l.length : Nat)) := by simp [ev1, lenD, iL]
theorem e_idx_iL (l : (List Int)) (i : Int) : ev2 .idx (iL l) (.int i) = (atI l i).map D.int := at_map _ _ _
theorem e_seq_iL (l : (List Int)) : evI1 .seq (iL l) = some (l.map D.int) := rfl
theorem e_isi_int_iL (l : (List Int)) : ev1 (.isi .int) (iL l) = some (.bl false) := rfl
theorem e_isi_bool_iL (l : (List Int)) : ev1 (.isi .bool) (iL l) = some (.bl false) := rfl
theorem e_isi_str_iL (l : (List Int)) : ev1 (.isi .str) (iL l) = some (.bl false) := rfl
theorem e_isi_tuple_iL (l : (List Int)) : ev1 (.isi .tuple) (iL l) = some (.bl false) := rfl
theorem e_isi_list_iL (l : (List Int)) : ev1 (.isi .list) (iL l) = some (.bl true) := rfl
theorem e_isis_iL (l : (List Int)) : ev1 (.isis [.list, .tuple]) (iL l) = some (.bl true) := rfl
theorem e_isN_iL (l : (List Int)) : ev2 .isN (iL l) .non = some (.bl false) := rfl
theorem e_nisN_iL (l : (List Int)) : ev2 .nisN (iL l) .non = some (.bl true) := rfl
theorem e_res_iT (S : Sto) (l : (List Int)) : res S (iT l) = iT l := rfl
theorem e_len_iT (l : (List Int)) : ev1 .len (iT l) = some (.int (l.length : Nat)) := by simp [ev1, lenD, iT]
theorem e_idx_iT (l : (List Int)) (i : Int) : ev2 .idx (iT l) (.int i) = (atI l i).map D.int := at_map _ _ _
theorem e_seq_iT (l : (List Int)) : evI1 .seq (iT l) = some (l.map D.int) := rfl
theorem e_isi_int_iT (l : (List Int)) : ev1 (.isi .int) (iT l) = some (.bl false) := rfl
theorem e_isi_bool_iT (l : (List Int)) : ev1 (.isi .bool) (iT l) = some (.bl false) := rfl
theorem e_isi_str_iT (l : (List Int)) : ev1 (.isi .str) (iT l) = some (.bl false) := rfl
theorem e_isi_tuple_iT (l : (List Int)) : ev1 (.isi .tuple) (iT l) = some (.bl true) := rfl
theorem e_isi_list_iT (l : (List Int)) : ev1 (.isi .list) (iT l) = some (.bl false) := rfl
theorem e_isis_iT (l : (List Int)) : ev1 (.isis [.list, .tuple]) (iT l) = some (.bl true) := rfl
theorem e_isN_iT (l : (List Int)) : ev2 .isN (iT l) .non = some (.bl false) := rfl
theorem e_nisN_iT (l : (List Int)) : ev2 .nisN (iT l) .non = some (.bl true) := rfl
theorem e_res_sL (S : Sto) (l : (List Str)) : res S (sL l) = sL l := rfl
theorem e_len_sL (l : (List Str)) : ev1 .len (sL l) = some (.int (l.length : Nat)) := by simp [ev1, lenD, sL]
theorem e_idx_sL (l : (List Str)) (i : Int) : ev2 .idx (sL l) (.int i) = (atI l i).map D.str := at_map _ _ _
theorem e_seq_sL (l : (List Str)) : evI1 .seq (sL l) = some (l.map D.str) := rfl
theorem e_isi_int_sL (l : (List Str)) : ev1 (.isi .int) (sL l) = some (.bl false) := rfl
theorem e_isi_bool_sL (l : (List Str)) : ev1 (.isi .bool) (sL l) = some (.bl false) := rfl
theorem e_isi_str_sL (l : (List Str)) : ev1 (.isi .str) (sL l) = some (.bl false) := rfl
theorem e_isi_tuple_sL (l : (List Str)) : ev1 (.isi .tuple) (sL l) = some (.bl false) := rfl
theorem e_isi_list_sL (l : (List Str)) : ev1 (.isi .list) (sL l) = some (.bl true) := rfl
theorem e_isis_sL (l : (List Str)) : ev1 (.isis [.list, .tuple]) (sL l) = some (.bl true) := rfl
theorem e_isN_sL (l : (List Str)) : ev2 .isN (sL l) .non = some (.bl false) := rfl
theorem e_nisN_sL (l : (List Str)) : ev2 .nisN (sL l) .non = some (.bl true) := rfl
theorem e_res_sT (S : Sto) (l : (List Str)) : res S (sT l) = sT l := rfl
theorem e_len_sT (l : (List Str)) : ev1 .len (sT l) = some (.int (l.length : Nat)) := by simp [ev1, lenD, sT]
theorem e_idx_sT (l : (List Str)) (i : Int) : ev2 .idx (sT l) (.int i) = (atI l i).map D.str := at_map _ _ _
theorem e_seq_sT (l : (List Str)) : evI1 .seq (sT l) = some (l.map D.str) := rfl
theorem e_isi_int_sT (l : (List Str)) : ev1 (.isi .int) (sT l) = some (.bl false) := rfl
theorem e_isi_bool_sT (l : (List Str)) : ev1 (.isi .bool) (sT l) = some (.bl false) := rfl
theorem e_isi_str_sT (l : (List Str)) : ev1 (.isi .str) (sT l) = some (.bl false) := rfl
theorem e_isi_tuple_sT (l : (List Str)) : ev1 (.isi .tuple) (sT l) = some (.bl true) := rfl
theorem e_isi_list_sT (l : (List Str)) : ev1 (.isi .list) (sT l) = some (.bl false) := rfl
theorem e_isis_sT (l : (List Str)) : ev1 (.isis [.list, .tuple]) (sT l) = some (.bl true) := rfl
theorem e_isN_sT (l : (List Str)) : ev2 .isN (sT l) .non = some (.bl false) := rfl
theorem e_nisN_sT (l : (List Str)) : ev2 .nisN (sT l) .non = some (.bl true) := rfl
theorem e_tuple_iL (l : (List Int)) : ev1 .tuple (iL l) = some (iT l) := rfl
theorem e_list_iL (l : (List Int)) : evX1 .list (iL l) = some (l.map D.int) := rfl
theorem e_app_iL (l k : (List Int)) : ev2 .add (iL l) (iL k) = if l.length + k.length ≤ sizeLine then some (iL (l ++ k)) else none := by simp [ev2, addD, iL]
theorem e_tuple_iT (l : (List Int)) : ev1 .tuple (iT l) = some (iT l) := rfl
theorem e_list_iT (l : (List Int)) : evX1 .list (iT l) = some (l.map D.int) := rfl
theorem e_appT_iL (l k : (List Int)) : ev2 .add (iT l) (iT k) = if l.length + k.length ≤ sizeLine then some (iT (l ++ k)) else none := by simp [ev2, addD, iT]
theorem e_tuple_sL (l : (List Str)) : ev1 .tuple (sL l) = some (sT l) := rfl
theorem e_list_sL (l : (List Str)) : evX1 .list (sL l) = some (l.map D.str) := rfl
theorem e_app_sL (l k : (List Str)) : ev2 .add (sL l) (sL k) = if l.length + k.length ≤ sizeLine then some (sL (l ++ k)) else none := by simp [ev2, addD, sL]
theorem e_tuple_sT (l : (List Str)) : ev1 .tuple (sT l) = some (sT l) := rfl
theorem e_list_sT (l : (List Str)) : evX1 .list (sT l) = some (l.map D.str) := rfl
theorem e_appT_sL (l k : (List Str)) : ev2 .add (sT l) (sT k) = if l.length + k.length ≤ sizeLine then some (sT (l ++ k)) else none := by simp [ev2, addD, sT]
theorem e_tuple_stL (l : (List Step)) : ev1 .tuple (stL l) = some (dMode l) := rfl
theorem e_list_stL (l : (List Step)) : evX1 .list (stL l) = some (l.map dStep) := rfl
theorem e_app_stL (l k : (List Step)) : ev2 .add (stL l) (stL k) = if l.length + k.length ≤ sizeLine then some (stL (l ++ k)) else none := by simp [ev2, addD, stL]
theorem e_tuple_dMode (l : (List Step)) : ev1 .tuple (dMode l) = some (dMode l) := rfl
theorem e_list_dMode (l : (List Step)) : evX1 .list (dMode l) = some (l.map dStep) := rfl
theorem e_appT_stL (l k : (List Step)) : ev2 .add (dMode l) (dMode k) = if l.length + k.length ≤ sizeLine then some (dMode (l ++ k)) else none := by simp [ev2, addD, dMode]
theorem e_resS (S : Sto) (s : Step) : res S (dStep s) = dStep s := rfl
theorem e_lenS (s : Step) : ev1 .len (dStep s) = some (.int 2) := rfl
theorem e_idx0 (s : Step) : ev2 .idx (dStep s) (.int 0) = some (.int s.1) := rfl
theorem e_idx1 (s : Step) : ev2 .idx (dStep s) (.int 1) = some (.str s.2) := rfl
theorem e_setS (a b : Tg) (s : Step) (r : Rho) : setT (.t (.cons a (.cons b .nil))) (dStep s) r = (setT a (.int s.1) r).bind fun r' => (setT b (.str s.2) r').bind fun r'' => some r'' := rfl
theorem e_all (l : List Bool) : ev1 .allB (.lst (l.map D.bl)) = some (.bl (l.all id)) := by simp [ev1, dBools_bl]
theorem e_srtS (l : List Int) : evX1 .sortedSetI (iL l) = if l.length < 60 then some ((setI l).map .int) else none := by simp [evX1, iL, dInts_int]
theorem ok_step (n : Nat) (s : Step) : okN (n + 2) (dStep s) = true := rfl
theorem ok_mode (n : Nat) (m : List Step) : okN (n + 3) (dMode m) = true := all_map_true (ok_step n) m
theorem ok_stL (n : Nat) (m : List Step) : okN (n + 3) (stL m) = true := all_map_true (ok_step n) m
theorem ok_plan (n : Nat) (p : Plan) : okN (n + 4) (dPlan p) = true := all_map_true (fun m => ok_mode n m) p
theorem ok_iL (n : Nat) (l : List Int) : okN (n + 2) (iL l) = true := all_map_true (fun _ => rfl) l
theorem ok_iT (n : Nat) (l : List Int) : okN (n + 2) (iT l) = true := all_map_true (fun _ => rfl) l
theorem ok_sL (n : Nat) (l : List Str) : okN (n + 2) (sL l) = true := all_map_true (fun _ => rfl) l
theorem ok_sT (n : Nat) (l : List Str) : okN (n + 2) (sT l) = true := all_map_true (fun _ => rfl) l
theorem cm_step (n : Nat) (s : Step) : cmpN (n + 2) (dStep s) = true := rfl
theorem cm_mode (n : Nat) (m : List Step) : cmpN (n + 3) (dMode m) = true := all_map_true (cm_step n) m
theorem cm_stL (n : Nat) (m : List Step) : cmpN (n + 3) (stL m) = true := all_map_true (cm_step n) m
theorem cm_plan (n : Nat) (p : Plan) : cmpN (n + 4) (dPlan p) = true := all_map_true (fun m => cm_mode n m) p
theorem cm_iL (n : Nat) (l : List Int) : cmpN (n + 2) (iL l) = true := all_map_true (fun _ => rfl) l
theorem cm_iT (n : Nat) (l : List Int) : cmpN (n + 2) (iT l) = true := all_map_true (fun _ => rfl) l
theorem cm_sL (n : Nat) (l : List Str) : cmpN (n + 2) (sL l) = true := all_map_true (fun _ => rfl) l
theorem cm_sT (n : Nat) (l : List Str) : cmpN (n + 2) (sT l) = true := all_map_true (fun _ => rfl) l
theorem eq_sL (l k : List Str) : eqD (sL l) (sL k) = decide (l = k) := eqDs_map eqD_str l k
theorem eq_iL (l k : List Int) : eqD (iL l) (iL k) = decide (l = k) := eqDs_map eqD_int l k
theorem e_isi_int_S (s : Step) : ev1 (.isi .int) (dStep s) = some (.bl false) := rfl
theorem e_isi_bool_S (s : Step) : ev1 (.isi .bool) (dStep s) = some (.bl false) := rfl
theorem e_isi_str_S (s : Step) : ev1 (.isi .str) (dStep s) = some (.bl false) := rfl
theorem e_isi_tuple_S (s : Step) : ev1 (.isi .tuple) (dStep s) = some (.bl true) := rfl
theorem e_isi_list_S (s : Step) : ev1 (.isi .list) (dStep s) = some (.bl false) := rfl
def itN (k : I1) (d : D) (S : Sto) : R (List D) := match d with
  | .loc _ => .no
  | d => R.opt (evI1 k d) S
def frzN (d : D) (S : Sto) : R D := match d with
  | .loc n => (match S[n]? with
    | some (.lst xs) => .ok (.lst xs) (S.set n (.frz (.lst xs)))
    | some (.dK ks vs) => .ok (.dK ks vs) (S.set n (.frz (.dK ks vs)))
    | some (.dT ks vs) => .ok (.dT ks vs) (S.set n (.frz (.dT ks vs)))
    | some (.frz e) => .ok e S
    | _ => .no)
  | d => .ok d S
theorem it1_eq (E : Env') (k : I1) (a : T) (r : Rho) (S : Sto) : evI E (.it1 k a) r S = (evE E a r S).bind fun d S => itN k d S := rfl
theorem it2_eq (E : Env') (k : I2) (a b : T) (r : Rho) (S : Sto) : evI E (.it2 k a b) r S = (evE E a r S).bind fun x S => (evE E b r S).bind fun y S => R.opt (evI2 k x y) S := rfl
theorem itN_int (k : I1) (S : Sto) (i : Int) : itN k (.int i) S = R.opt (evI1 k (.int i)) S := rfl
theorem frzN_int (S : Sto) (i : Int) : frzN (.int i) S = .ok (.int i) S := rfl
theorem itN_str (k : I1) (S : Sto) (x : Str) : itN k (.str x) S = R.opt (evI1 k (.str x)) S := rfl
theorem frzN_str (S : Sto) (x : Str) : frzN (.str x) S = .ok (.str x) S := rfl
theorem itN_tup (k : I1) (S : Sto) (xs : List D) : itN k (.tup xs) S = R.opt (evI1 k (.tup xs)) S := rfl
theorem frzN_tup (S : Sto) (xs : List D) : frzN (.tup xs) S = .ok (.tup xs) S := rfl
theorem itN_lst (k : I1) (S : Sto) (xs : List D) : itN k (.lst xs) S = R.opt (evI1 k (.lst xs)) S := rfl
theorem frzN_lst (S : Sto) (xs : List D) : frzN (.lst xs) S = .ok (.lst xs) S := rfl
theorem itN_dPlan (k : I1) (S : Sto) (p : Plan) : itN k (dPlan p) S = R.opt (evI1 k (dPlan p)) S := rfl
theorem frzN_dPlan (S : Sto) (p : Plan) : frzN (dPlan p) S = .ok (dPlan p) S := rfl
theorem itN_dMode (k : I1) (S : Sto) (p : List Step) : itN k (dMode p) S = R.opt (evI1 k (dMode p)) S := rfl
theorem frzN_dMode (S : Sto) (p : List Step) : frzN (dMode p) S = .ok (dMode p) S := rfl
theorem itN_stL (k : I1) (S : Sto) (p : List Step) : itN k (stL p) S = R.opt (evI1 k (stL p)) S := rfl
theorem frzN_stL (S : Sto) (p : List Step) : frzN (stL p) S = .ok (stL p) S := rfl
theorem itN_iL (k : I1) (S : Sto) (p : List Int) : itN k (iL p) S = R.opt (evI1 k (iL p)) S := rfl
theorem frzN_iL (S : Sto) (p : List Int) : frzN (iL p) S = .ok (iL p) S := rfl
theorem itN_iT (k : I1) (S : Sto) (p : List Int) : itN k (iT p) S = R.opt (evI1 k (iT p)) S := rfl
theorem frzN_iT (S : Sto) (p : List Int) : frzN (iT p) S = .ok (iT p) S := rfl
theorem itN_sL (k : I1) (S : Sto) (p : List Str) : itN k (sL p) S = R.opt (evI1 k (sL p)) S := rfl
theorem frzN_sL (S : Sto) (p : List Str) : frzN (sL p) S = .ok (sL p) S := rfl
theorem itN_sT (k : I1) (S : Sto) (p : List Str) : itN k (sT p) S = R.opt (evI1 k (sT p)) S := rfl
theorem frzN_sT (S : Sto) (p : List Str) : frzN (sT p) S = .ok (sT p) S := rfl
theorem itN_dStep (k : I1) (S : Sto) (s : Step) : itN k (dStep s) S = R.opt (evI1 k (dStep s)) S := rfl
theorem frzN_dStep (S : Sto) (s : Step) : frzN (dStep s) S = .ok (dStep s) S := rfl
theorem frz_eq (E : Env') (a : T) (r : Rho) (S : Sto) : evE E (.frz a) r S = (evE E a r S).bind fun d S => frzN d S := rfl
theorem frzN_loc (S : Sto) (n : Nat) : frzN (.loc n) S = (match S[n]? with
    | some (.lst xs) => .ok (.lst xs) (S.set n (.frz (.lst xs)))
    | some (.dK ks vs) => .ok (.dK ks vs) (S.set n (.frz (.dK ks vs)))
    | some (.dT ks vs) => .ok (.dT ks vs) (S.set n (.frz (.dT ks vs)))
    | some (.frz e) => .ok e S
    | _ => .no) := rfl
theorem res_loc (S : Sto) (n : Nat) : res S (.loc n) = (match S[n]? with
    | some (.lst xs) => .lst xs
    | some (.dK ks vs) => .dK ks vs
    | some (.dT ks vs) => .dT ks vs
    | some (.frz e) => e
    | some .tab => .loc n
    | none => .loc n) := rfl
end Bp

namespace Bp
open PySem L2
theorem cell_ok (ns : List Int) (k : Int) (hk : 0 ≤ k) : F_u_law_cell [.scr ns, .int k] = .ok (.int (cell ns k)) := by
  unfold F_u_law_cell runDef t_u_law_cell cell
  have e0 : (0 : Nat) ≤ sizeLine := by decide
  have ek : k = (k.toNat : Int) := by omega
  by_cases h : k < ns.length
  · have h2 : atI ns k = some (ns.getD k.toNat 0) := at_i 0 hk h
    simp only [res_non, res_bl, res_int, res_str, res_tup, res_lst, res_scr, res_dK, bind_ok, bind_ex, bind_no, opt_some, opt_none, v_add, v_addL, v_addT, v_addS, v_sub, v_mul, v_mulL, v_fdiv, v_mod, v_eq, v_ne, v_lt, v_le, v_gt, v_ge, v_idxL, v_idxT, v_idxS, v_inS, v_ninS, v_inL, v_ninL, v_isN_non, v_nisN_non, v_isN_bl, v_nisN_bl, v_isN_int, v_nisN_int, v_isN_str, v_nisN_str, v_isN_tup, v_nisN_tup, v_isN_lst, v_nisN_lst, v_isN_scr, v_nisN_scr, v_isN_dK, v_nisN_dK, v_isB, v_nisB, u_lenL, u_lenT, u_lenC, u_lenD, u_neg, u_all, u_any, u_sum, u_tupL, u_tupT, u_tupR, u_intB, u_isi_int_non, u_isi_int_bl, u_isi_int_int, u_isi_int_str, u_isi_int_tup, u_isi_int_lst, u_isi_int_scr, u_isi_int_dK, u_isi_bool_non, u_isi_bool_bl, u_isi_bool_int, u_isi_bool_str, u_isi_bool_tup, u_isi_bool_lst, u_isi_bool_scr, u_isi_bool_dK, u_isi_str_non, u_isi_str_bl, u_isi_str_int, u_isi_str_str, u_isi_str_tup, u_isi_str_lst, u_isi_str_scr, u_isi_str_dK, u_isi_tuple_non, u_isi_tuple_bl, u_isi_tuple_int, u_isi_tuple_str, u_isi_tuple_tup, u_isi_tuple_lst, u_isi_tuple_scr, u_isi_tuple_dK, u_isi_list_non, u_isi_list_bl, u_isi_list_int, u_isi_list_str, u_isi_list_tup, u_isi_list_lst, u_isi_list_scr, u_isi_list_dK, u_isis_lt_non, u_isis_lt_bl, u_isis_lt_int, u_isis_lt_str, u_isis_lt_tup, u_isis_lt_lst, u_isis_lt_scr, u_isis_lt_dK, w_listL, w_listT, w_listR, w_srtS, w_srt, y_seqL, y_seqT, y_rng, y_chars, s_n, s_t, s_nil, s_cons, c_F0, c_F1, c_F2, c_F3, c_F4, c_F5, c_F6, c_F7, c_F8, c_F9, c_F10, c_F11, c_G0, c_G1, c_G2, c_G3, c_G4, nilT, nil_v, nil_k, nil_g, nil_o1, nil_o2, nil_and, nil_or, nil_not, nil_ch, nil_call, kn_non, km_non, kn_bl, km_bl, kn_int, km_int, kn_str, km_str, kn_scr, km_scr, kn_tup, kn_lst, km_tup, km_lst, evS, evE, evA, evX, eqB, callP, partI, slotLoc, isLst, appL, Option.map_some, Option.map_none, Option.bind_some, List.getElem?_cons_zero, List.getElem?_cons_succ, List.map_cons, List.map_nil, List.length_cons, List.length_nil, List.set_cons_zero, List.set_cons_succ, List.cons_append, List.nil_append, List.replicate_succ, List.replicate_zero, Nat.zero_add, Nat.reduceAdd, Nat.reduceSub, Nat.reduceLT, Int.reduceLT, Int.reduceLE, Int.reduceNeg, eq_self, and_self, and_true, true_and, Nat.reduceLeDiff, if_true, Bool.false_eq_true, if_false, ite_true, ite_false, decide_true, decide_false, Bool.not_true, Bool.not_false, Bool.and_true, Bool.true_and, wipeR, List.all_cons, List.all_nil, at_n, at_0, at_1, at_2, at_l, e_res_dPlan, e_len_dPlan, e_idx_dPlan, e_seq_dPlan, e_isi_int_dPlan, e_isi_bool_dPlan, e_isi_str_dPlan, e_isi_tuple_dPlan, e_isi_list_dPlan, e_isis_dPlan, e_isN_dPlan, e_nisN_dPlan, e_res_dMode, e_len_dMode, e_idx_dMode, e_seq_dMode, e_isi_int_dMode, e_isi_bool_dMode, e_isi_str_dMode, e_isi_tuple_dMode, e_isi_list_dMode, e_isis_dMode, e_isN_dMode, e_nisN_dMode, e_res_stL, e_len_stL, e_idx_stL, e_seq_stL, e_isi_int_stL, e_isi_bool_stL, e_isi_str_stL, e_isi_tuple_stL, e_isi_list_stL, e_isis_stL, e_isN_stL, e_nisN_stL, e_res_iL, e_len_iL, e_idx_iL, e_seq_iL, e_isi_int_iL, e_isi_bool_iL, e_isi_str_iL, e_isi_tuple_iL, e_isi_list_iL, e_isis_iL, e_isN_iL, e_nisN_iL, e_res_iT, e_len_iT, e_idx_iT, e_seq_iT, e_isi_int_iT, e_isi_bool_iT, e_isi_str_iT, e_isi_tuple_iT, e_isi_list_iT, e_isis_iT, e_isN_iT, e_nisN_iT, e_res_sL, e_len_sL, e_idx_sL, e_seq_sL, e_isi_int_sL, e_isi_bool_sL, e_isi_str_sL, e_isi_tuple_sL, e_isi_list_sL, e_isis_sL, e_isN_sL, e_nisN_sL, e_res_sT, e_len_sT, e_idx_sT, e_seq_sT, e_isi_int_sT, e_isi_bool_sT, e_isi_str_sT, e_isi_tuple_sT, e_isi_list_sT, e_isis_sT, e_isN_sT, e_nisN_sT, e_tuple_iL, e_list_iL, e_app_iL, e_tuple_iT, e_list_iT, e_appT_iL, e_tuple_sL, e_list_sL, e_app_sL, e_tuple_sT, e_list_sT, e_appT_sL, e_tuple_stL, e_list_stL, e_app_stL, e_tuple_dMode, e_list_dMode, e_appT_stL, e_resS, e_lenS, e_idx0, e_idx1, e_setS, e_all, e_srtS, ok_step, ok_mode, ok_stL, ok_plan, ok_iL, ok_iT, ok_sL, ok_sT, cm_step, cm_mode, cm_stL, cm_plan, cm_iL, cm_iT, cm_sL, cm_sT, eq_sL, eq_iL, eqD_int, eqD_str, e_isi_int_S, e_isi_bool_S, e_isi_str_S, e_isi_tuple_S, e_isi_list_S, it1_eq, it2_eq, itN_int, frzN_int, itN_str, frzN_str, itN_tup, frzN_tup, itN_lst, frzN_lst, itN_dPlan, frzN_dPlan, itN_dMode, frzN_dMode, itN_stL, frzN_stL, itN_iL, frzN_iL, itN_iT, frzN_iT, itN_sL, frzN_sL, itN_sT, frzN_sT, itN_dStep, frzN_dStep, frz_eq, frzN_loc, res_loc, dBools_bl, dInts_int, h, h2]
  · by_cases h0 : ns = []
    · have hd : decide (ns = []) = true := by simp [h0]
      rw [if_neg h, if_pos h0]
      simp only [res_non, res_bl, res_int, res_str, res_tup, res_lst, res_scr, res_dK, bind_ok, bind_ex, bind_no, opt_some, opt_none, v_add, v_addL, v_addT, v_addS, v_sub, v_mul, v_mulL, v_fdiv, v_mod, v_eq, v_ne, v_lt, v_le, v_gt, v_ge, v_idxL, v_idxT, v_idxS, v_inS, v_ninS, v_inL, v_ninL, v_isN_non, v_nisN_non, v_isN_bl, v_nisN_bl, v_isN_int, v_nisN_int, v_isN_str, v_nisN_str, v_isN_tup, v_nisN_tup, v_isN_lst, v_nisN_lst, v_isN_scr, v_nisN_scr, v_isN_dK, v_nisN_dK, v_isB, v_nisB, u_lenL, u_lenT, u_lenC, u_lenD, u_neg, u_all, u_any, u_sum, u_tupL, u_tupT, u_tupR, u_intB, u_isi_int_non, u_isi_int_bl, u_isi_int_int, u_isi_int_str, u_isi_int_tup, u_isi_int_lst, u_isi_int_scr, u_isi_int_dK, u_isi_bool_non, u_isi_bool_bl, u_isi_bool_int, u_isi_bool_str, u_isi_bool_tup, u_isi_bool_lst, u_isi_bool_scr, u_isi_bool_dK, u_isi_str_non, u_isi_str_bl, u_isi_str_int, u_isi_str_str, u_isi_str_tup, u_isi_str_lst, u_isi_str_scr, u_isi_str_dK, u_isi_tuple_non, u_isi_tuple_bl, u_isi_tuple_int, u_isi_tuple_str, u_isi_tuple_tup, u_isi_tuple_lst, u_isi_tuple_scr, u_isi_tuple_dK, u_isi_list_non, u_isi_list_bl, u_isi_list_int, u_isi_list_str, u_isi_list_tup, u_isi_list_lst, u_isi_list_scr, u_isi_list_dK, u_isis_lt_non, u_isis_lt_bl, u_isis_lt_int, u_isis_lt_str, u_isis_lt_tup, u_isis_lt_lst, u_isis_lt_scr, u_isis_lt_dK, w_listL, w_listT, w_listR, w_srtS, w_srt, y_seqL, y_seqT, y_rng, y_chars, s_n, s_t, s_nil, s_cons, c_F0, c_F1, c_F2, c_F3, c_F4, c_F5, c_F6, c_F7, c_F8, c_F9, c_F10, c_F11, c_G0, c_G1, c_G2, c_G3, c_G4, nilT, nil_v, nil_k, nil_g, nil_o1, nil_o2, nil_and, nil_or, nil_not, nil_ch, nil_call, kn_non, km_non, kn_bl, km_bl, kn_int, km_int, kn_str, km_str, kn_scr, km_scr, kn_tup, kn_lst, km_tup, km_lst, evS, evE, evA, evX, eqB, callP, partI, slotLoc, isLst, appL, Option.map_some, Option.map_none, Option.bind_some, List.getElem?_cons_zero, List.getElem?_cons_succ, List.map_cons, List.map_nil, List.length_cons, List.length_nil, List.set_cons_zero, List.set_cons_succ, List.cons_append, List.nil_append, List.replicate_succ, List.replicate_zero, Nat.zero_add, Nat.reduceAdd, Nat.reduceSub, Nat.reduceLT, Int.reduceLT, Int.reduceLE, Int.reduceNeg, eq_self, and_self, and_true, true_and, Nat.reduceLeDiff, if_true, Bool.false_eq_true, if_false, ite_true, ite_false, decide_true, decide_false, Bool.not_true, Bool.not_false, Bool.and_true, Bool.true_and, wipeR, List.all_cons, List.all_nil, at_n, at_0, at_1, at_2, at_l, e_res_dPlan, e_len_dPlan, e_idx_dPlan, e_seq_dPlan, e_isi_int_dPlan, e_isi_bool_dPlan, e_isi_str_dPlan, e_isi_tuple_dPlan, e_isi_list_dPlan, e_isis_dPlan, e_isN_dPlan, e_nisN_dPlan, e_res_dMode, e_len_dMode, e_idx_dMode, e_seq_dMode, e_isi_int_dMode, e_isi_bool_dMode, e_isi_str_dMode, e_isi_tuple_dMode, e_isi_list_dMode, e_isis_dMode, e_isN_dMode, e_nisN_dMode, e_res_stL, e_len_stL, e_idx_stL, e_seq_stL, e_isi_int_stL, e_isi_bool_stL, e_isi_str_stL, e_isi_tuple_stL, e_isi_list_stL, e_isis_stL, e_isN_stL, e_nisN_stL, e_res_iL, e_len_iL, e_idx_iL, e_seq_iL, e_isi_int_iL, e_isi_bool_iL, e_isi_str_iL, e_isi_tuple_iL, e_isi_list_iL, e_isis_iL, e_isN_iL, e_nisN_iL, e_res_iT, e_len_iT, e_idx_iT, e_seq_iT, e_isi_int_iT, e_isi_bool_iT, e_isi_str_iT, e_isi_tuple_iT, e_isi_list_iT, e_isis_iT, e_isN_iT, e_nisN_iT, e_res_sL, e_len_sL, e_idx_sL, e_seq_sL, e_isi_int_sL, e_isi_bool_sL, e_isi_str_sL, e_isi_tuple_sL, e_isi_list_sL, e_isis_sL, e_isN_sL, e_nisN_sL, e_res_sT, e_len_sT, e_idx_sT, e_seq_sT, e_isi_int_sT, e_isi_bool_sT, e_isi_str_sT, e_isi_tuple_sT, e_isi_list_sT, e_isis_sT, e_isN_sT, e_nisN_sT, e_tuple_iL, e_list_iL, e_app_iL, e_tuple_iT, e_list_iT, e_appT_iL, e_tuple_sL, e_list_sL, e_app_sL, e_tuple_sT, e_list_sT, e_appT_sL, e_tuple_stL, e_list_stL, e_app_stL, e_tuple_dMode, e_list_dMode, e_appT_stL, e_resS, e_lenS, e_idx0, e_idx1, e_setS, e_all, e_srtS, ok_step, ok_mode, ok_stL, ok_plan, ok_iL, ok_iT, ok_sL, ok_sT, cm_step, cm_mode, cm_stL, cm_plan, cm_iL, cm_iT, cm_sL, cm_sT, eq_sL, eq_iL, eqD_int, eqD_str, e_isi_int_S, e_isi_bool_S, e_isi_str_S, e_isi_tuple_S, e_isi_list_S, it1_eq, it2_eq, itN_int, frzN_int, itN_str, frzN_str, itN_tup, frzN_tup, itN_lst, frzN_lst, itN_dPlan, frzN_dPlan, itN_dMode, frzN_dMode, itN_stL, frzN_stL, itN_iL, frzN_iL, itN_iT, frzN_iT, itN_sL, frzN_sL, itN_sT, frzN_sT, itN_dStep, frzN_dStep, frz_eq, frzN_loc, res_loc, dBools_bl, dInts_int, h, e0, eqD_scr_nil, hd]
    · have h3 : 0 < ns.length := List.length_pos_iff.mpr h0
      have h6 : (0 : Int) < (ns.length : Nat) := by omega
      have h5 : atI ns (k % (ns.length : Nat)) = some (ns.getD (k % (ns.length : Nat)).toNat 0) := at_i 0 (Int.emod_nonneg _ (by omega)) (Int.emod_lt_of_pos _ h6)
      have h7 : ∀ i, mulOk i 31 = true := mulOk_r (by omega)
      simp only [res_non, res_bl, res_int, res_str, res_tup, res_lst, res_scr, res_dK, bind_ok, bind_ex, bind_no, opt_some, opt_none, v_add, v_addL, v_addT, v_addS, v_sub, v_mul, v_mulL, v_fdiv, v_mod, v_eq, v_ne, v_lt, v_le, v_gt, v_ge, v_idxL, v_idxT, v_idxS, v_inS, v_ninS, v_inL, v_ninL, v_isN_non, v_nisN_non, v_isN_bl, v_nisN_bl, v_isN_int, v_nisN_int, v_isN_str, v_nisN_str, v_isN_tup, v_nisN_tup, v_isN_lst, v_nisN_lst, v_isN_scr, v_nisN_scr, v_isN_dK, v_nisN_dK, v_isB, v_nisB, u_lenL, u_lenT, u_lenC, u_lenD, u_neg, u_all, u_any, u_sum, u_tupL, u_tupT, u_tupR, u_intB, u_isi_int_non, u_isi_int_bl, u_isi_int_int, u_isi_int_str, u_isi_int_tup, u_isi_int_lst, u_isi_int_scr, u_isi_int_dK, u_isi_bool_non, u_isi_bool_bl, u_isi_bool_int, u_isi_bool_str, u_isi_bool_tup, u_isi_bool_lst, u_isi_bool_scr, u_isi_bool_dK, u_isi_str_non, u_isi_str_bl, u_isi_str_int, u_isi_str_str, u_isi_str_tup, u_isi_str_lst, u_isi_str_scr, u_isi_str_dK, u_isi_tuple_non, u_isi_tuple_bl, u_isi_tuple_int, u_isi_tuple_str, u_isi_tuple_tup, u_isi_tuple_lst, u_isi_tuple_scr, u_isi_tuple_dK, u_isi_list_non, u_isi_list_bl, u_isi_list_int, u_isi_list_str, u_isi_list_tup, u_isi_list_lst, u_isi_list_scr, u_isi_list_dK, u_isis_lt_non, u_isis_lt_bl, u_isis_lt_int, u_isis_lt_str, u_isis_lt_tup, u_isis_lt_lst, u_isis_lt_scr, u_isis_lt_dK, w_listL, w_listT, w_listR, w_srtS, w_srt, y_seqL, y_seqT, y_rng, y_chars, s_n, s_t, s_nil, s_cons, c_F0, c_F1, c_F2, c_F3, c_F4, c_F5, c_F6, c_F7, c_F8, c_F9, c_F10, c_F11, c_G0, c_G1, c_G2, c_G3, c_G4, nilT, nil_v, nil_k, nil_g, nil_o1, nil_o2, nil_and, nil_or, nil_not, nil_ch, nil_call, kn_non, km_non, kn_bl, km_bl, kn_int, km_int, kn_str, km_str, kn_scr, km_scr, kn_tup, kn_lst, km_tup, km_lst, evS, evE, evA, evX, eqB, callP, partI, slotLoc, isLst, appL, Option.map_some, Option.map_none, Option.bind_some, List.getElem?_cons_zero, List.getElem?_cons_succ, List.map_cons, List.map_nil, List.length_cons, List.length_nil, List.set_cons_zero, List.set_cons_succ, List.cons_append, List.nil_append, List.replicate_succ, List.replicate_zero, Nat.zero_add, Nat.reduceAdd, Nat.reduceSub, Nat.reduceLT, Int.reduceLT, Int.reduceLE, Int.reduceNeg, eq_self, and_self, and_true, true_and, Nat.reduceLeDiff, if_true, Bool.false_eq_true, if_false, ite_true, ite_false, decide_true, decide_false, Bool.not_true, Bool.not_false, Bool.and_true, Bool.true_and, wipeR, List.all_cons, List.all_nil, at_n, at_0, at_1, at_2, at_l, e_res_dPlan, e_len_dPlan, e_idx_dPlan, e_seq_dPlan, e_isi_int_dPlan, e_isi_bool_dPlan, e_isi_str_dPlan, e_isi_tuple_dPlan, e_isi_list_dPlan, e_isis_dPlan, e_isN_dPlan, e_nisN_dPlan, e_res_dMode, e_len_dMode, e_idx_dMode, e_seq_dMode, e_isi_int_dMode, e_isi_bool_dMode, e_isi_str_dMode, e_isi_tuple_dMode, e_isi_list_dMode, e_isis_dMode, e_isN_dMode, e_nisN_dMode, e_res_stL, e_len_stL, e_idx_stL, e_seq_stL, e_isi_int_stL, e_isi_bool_stL, e_isi_str_stL, e_isi_tuple_stL, e_isi_list_stL, e_isis_stL, e_isN_stL, e_nisN_stL, e_res_iL, e_len_iL, e_idx_iL, e_seq_iL, e_isi_int_iL, e_isi_bool_iL, e_isi_str_iL, e_isi_tuple_iL, e_isi_list_iL, e_isis_iL, e_isN_iL, e_nisN_iL, e_res_iT, e_len_iT, e_idx_iT, e_seq_iT, e_isi_int_iT, e_isi_bool_iT, e_isi_str_iT, e_isi_tuple_iT, e_isi_list_iT, e_isis_iT, e_isN_iT, e_nisN_iT, e_res_sL, e_len_sL, e_idx_sL, e_seq_sL, e_isi_int_sL, e_isi_bool_sL, e_isi_str_sL, e_isi_tuple_sL, e_isi_list_sL, e_isis_sL, e_isN_sL, e_nisN_sL, e_res_sT, e_len_sT, e_idx_sT, e_seq_sT, e_isi_int_sT, e_isi_bool_sT, e_isi_str_sT, e_isi_tuple_sT, e_isi_list_sT, e_isis_sT, e_isN_sT, e_nisN_sT, e_tuple_iL, e_list_iL, e_app_iL, e_tuple_iT, e_list_iT, e_appT_iL, e_tuple_sL, e_list_sL, e_app_sL, e_tuple_sT, e_list_sT, e_appT_sL, e_tuple_stL, e_list_stL, e_app_stL, e_tuple_dMode, e_list_dMode, e_appT_stL, e_resS, e_lenS, e_idx0, e_idx1, e_setS, e_all, e_srtS, ok_step, ok_mode, ok_stL, ok_plan, ok_iL, ok_iT, ok_sL, ok_sT, cm_step, cm_mode, cm_stL, cm_plan, cm_iL, cm_iT, cm_sL, cm_sT, eq_sL, eq_iL, eqD_int, eqD_str, e_isi_int_S, e_isi_bool_S, e_isi_str_S, e_isi_tuple_S, e_isi_list_S, it1_eq, it2_eq, itN_int, frzN_int, itN_str, frzN_str, itN_tup, frzN_tup, itN_lst, frzN_lst, itN_dPlan, frzN_dPlan, itN_dMode, frzN_dMode, itN_stL, frzN_stL, itN_iL, frzN_iL, itN_iT, frzN_iT, itN_sL, frzN_sL, itN_sT, frzN_sT, itN_dStep, frzN_dStep, frz_eq, frzN_loc, res_loc, dBools_bl, dInts_int, h, e0, eqD_scr_nil, h0, h5, h6, h7]
theorem pick_ok (ns : List Int) (k many : Int) (hk : 0 ≤ k) (h : 0 < many) : F_u_law_pick [.scr ns, .int k, .int many] = .ok (.int (pick ns k many)) := by
  unfold F_u_law_pick runDef t_u_law_pick
  have h1 : ∀ i, mulOk i 40692 = true := mulOk_r (by omega)
  have h2 : ∀ i, mulOk 6151 i = true := mulOk_l (by omega)
  have h5 : ∀ x : Int, x % 2147483399 < 2147483399 ∧ 0 ≤ x % 2147483399 := fun x => by omega
  have h6 : ∀ x y : Int, mulOk (x % 2147483399) y = true := fun x y => mulOk_l (by have := h5 x; omega) y
  simp only [res_non, res_bl, res_int, res_str, res_tup, res_lst, res_scr, res_dK, bind_ok, bind_ex, bind_no, opt_some, opt_none, v_add, v_addL, v_addT, v_addS, v_sub, v_mul, v_mulL, v_fdiv, v_mod, v_eq, v_ne, v_lt, v_le, v_gt, v_ge, v_idxL, v_idxT, v_idxS, v_inS, v_ninS, v_inL, v_ninL, v_isN_non, v_nisN_non, v_isN_bl, v_nisN_bl, v_isN_int, v_nisN_int, v_isN_str, v_nisN_str, v_isN_tup, v_nisN_tup, v_isN_lst, v_nisN_lst, v_isN_scr, v_nisN_scr, v_isN_dK, v_nisN_dK, v_isB, v_nisB, u_lenL, u_lenT, u_lenC, u_lenD, u_neg, u_all, u_any, u_sum, u_tupL, u_tupT, u_tupR, u_intB, u_isi_int_non, u_isi_int_bl, u_isi_int_int, u_isi_int_str, u_isi_int_tup, u_isi_int_lst, u_isi_int_scr, u_isi_int_dK, u_isi_bool_non, u_isi_bool_bl, u_isi_bool_int, u_isi_bool_str, u_isi_bool_tup, u_isi_bool_lst, u_isi_bool_scr, u_isi_bool_dK, u_isi_str_non, u_isi_str_bl, u_isi_str_int, u_isi_str_str, u_isi_str_tup, u_isi_str_lst, u_isi_str_scr, u_isi_str_dK, u_isi_tuple_non, u_isi_tuple_bl, u_isi_tuple_int, u_isi_tuple_str, u_isi_tuple_tup, u_isi_tuple_lst, u_isi_tuple_scr, u_isi_tuple_dK, u_isi_list_non, u_isi_list_bl, u_isi_list_int, u_isi_list_str, u_isi_list_tup, u_isi_list_lst, u_isi_list_scr, u_isi_list_dK, u_isis_lt_non, u_isis_lt_bl, u_isis_lt_int, u_isis_lt_str, u_isis_lt_tup, u_isis_lt_lst, u_isis_lt_scr, u_isis_lt_dK, w_listL, w_listT, w_listR, w_srtS, w_srt, y_seqL, y_seqT, y_rng, y_chars, s_n, s_t, s_nil, s_cons, c_F0, c_F1, c_F2, c_F3, c_F4, c_F5, c_F6, c_F7, c_F8, c_F9, c_F10, c_F11, c_G0, c_G1, c_G2, c_G3, c_G4, nilT, nil_v, nil_k, nil_g, nil_o1, nil_o2, nil_and, nil_or, nil_not, nil_ch, nil_call, kn_non, km_non, kn_bl, km_bl, kn_int, km_int, kn_str, km_str, kn_scr, km_scr, kn_tup, kn_lst, km_tup, km_lst, evS, evE, evA, evX, eqB, callP, partI, slotLoc, isLst, appL, Option.map_some, Option.map_none, Option.bind_some, List.getElem?_cons_zero, List.getElem?_cons_succ, List.map_cons, List.map_nil, List.length_cons, List.length_nil, List.set_cons_zero, List.set_cons_succ, List.cons_append, List.nil_append, List.replicate_succ, List.replicate_zero, Nat.zero_add, Nat.reduceAdd, Nat.reduceSub, Nat.reduceLT, Int.reduceLT, Int.reduceLE, Int.reduceNeg, eq_self, and_self, and_true, true_and, Nat.reduceLeDiff, if_true, Bool.false_eq_true, if_false, ite_true, ite_false, decide_true, decide_false, Bool.not_true, Bool.not_false, Bool.and_true, Bool.true_and, wipeR, List.all_cons, List.all_nil, at_n, at_0, at_1, at_2, at_l, e_res_dPlan, e_len_dPlan, e_idx_dPlan, e_seq_dPlan, e_isi_int_dPlan, e_isi_bool_dPlan, e_isi_str_dPlan, e_isi_tuple_dPlan, e_isi_list_dPlan, e_isis_dPlan, e_isN_dPlan, e_nisN_dPlan, e_res_dMode, e_len_dMode, e_idx_dMode, e_seq_dMode, e_isi_int_dMode, e_isi_bool_dMode, e_isi_str_dMode, e_isi_tuple_dMode, e_isi_list_dMode, e_isis_dMode, e_isN_dMode, e_nisN_dMode, e_res_stL, e_len_stL, e_idx_stL, e_seq_stL, e_isi_int_stL, e_isi_bool_stL, e_isi_str_stL, e_isi_tuple_stL, e_isi_list_stL, e_isis_stL, e_isN_stL, e_nisN_stL, e_res_iL, e_len_iL, e_idx_iL, e_seq_iL, e_isi_int_iL, e_isi_bool_iL, e_isi_str_iL, e_isi_tuple_iL, e_isi_list_iL, e_isis_iL, e_isN_iL, e_nisN_iL, e_res_iT, e_len_iT, e_idx_iT, e_seq_iT, e_isi_int_iT, e_isi_bool_iT, e_isi_str_iT, e_isi_tuple_iT, e_isi_list_iT, e_isis_iT, e_isN_iT, e_nisN_iT, e_res_sL, e_len_sL, e_idx_sL, e_seq_sL, e_isi_int_sL, e_isi_bool_sL, e_isi_str_sL, e_isi_tuple_sL, e_isi_list_sL, e_isis_sL, e_isN_sL, e_nisN_sL, e_res_sT, e_len_sT, e_idx_sT, e_seq_sT, e_isi_int_sT, e_isi_bool_sT, e_isi_str_sT, e_isi_tuple_sT, e_isi_list_sT, e_isis_sT, e_isN_sT, e_nisN_sT, e_tuple_iL, e_list_iL, e_app_iL, e_tuple_iT, e_list_iT, e_appT_iL, e_tuple_sL, e_list_sL, e_app_sL, e_tuple_sT, e_list_sT, e_appT_sL, e_tuple_stL, e_list_stL, e_app_stL, e_tuple_dMode, e_list_dMode, e_appT_stL, e_resS, e_lenS, e_idx0, e_idx1, e_setS, e_all, e_srtS, ok_step, ok_mode, ok_stL, ok_plan, ok_iL, ok_iT, ok_sL, ok_sT, cm_step, cm_mode, cm_stL, cm_plan, cm_iL, cm_iT, cm_sL, cm_sT, eq_sL, eq_iL, eqD_int, eqD_str, e_isi_int_S, e_isi_bool_S, e_isi_str_S, e_isi_tuple_S, e_isi_list_S, it1_eq, it2_eq, itN_int, frzN_int, itN_str, frzN_str, itN_tup, frzN_tup, itN_lst, frzN_lst, itN_dPlan, frzN_dPlan, itN_dMode, frzN_dMode, itN_stL, frzN_stL, itN_iL, frzN_iL, itN_iT, frzN_iT, itN_sL, frzN_sL, itN_sT, frzN_sT, itN_dStep, frzN_dStep, frz_eq, frzN_loc, res_loc, dBools_bl, dInts_int, E_u_law_pick_F0, cell_ok _ _ hk, h1, h2, h, h6]
  rfl
/-! ### plans -/
def okDeed (x : Str) : Bool := match F_is_deed [.str x] with
  | .ok (.bl b) => b
  | _ => false
theorem okDeed_eq {x : Str} (h : okDeed x = true) : F_is_deed [.str x] = .ok (.bl true) := by
  unfold okDeed at h
  split at h
  · rename_i b e; rw [e, h]
  · cases h
structure IsPlan (p : Plan) (b : Nat) : Prop where
  one : 1 ≤ p.length
  six : p.length ≤ 6
  b1 : 1 ≤ b
  b3 : b ≤ 3
  len : ∀ m ∈ p, m.length = b
  goal : ∀ m ∈ p, ∀ s ∈ m, 0 ≤ s.1 ∧ s.1 < p.length
  deed : ∀ m ∈ p, ∀ s ∈ m, okDeed s.2 = true
/-! ### is_plan of plans -/
theorem whole_ok (i lo hi : Int) : F_is_whole [.int i, .int lo, .int hi] = .ok (.bl (decide (lo ≤ i) && decide (i ≤ hi))) := by
  unfold F_is_whole runDef t_is_whole
  by_cases h1 : lo ≤ i
  · by_cases h2 : i ≤ hi <;> simp only [res_non, res_bl, res_int, res_str, res_tup, res_lst, res_scr, res_dK, bind_ok, bind_ex, bind_no, opt_some, opt_none, v_add, v_addL, v_addT, v_addS, v_sub, v_mul, v_mulL, v_fdiv, v_mod, v_eq, v_ne, v_lt, v_le, v_gt, v_ge, v_idxL, v_idxT, v_idxS, v_inS, v_ninS, v_inL, v_ninL, v_isN_non, v_nisN_non, v_isN_bl, v_nisN_bl, v_isN_int, v_nisN_int, v_isN_str, v_nisN_str, v_isN_tup, v_nisN_tup, v_isN_lst, v_nisN_lst, v_isN_scr, v_nisN_scr, v_isN_dK, v_nisN_dK, v_isB, v_nisB, u_lenL, u_lenT, u_lenC, u_lenD, u_neg, u_all, u_any, u_sum, u_tupL, u_tupT, u_tupR, u_intB, u_isi_int_non, u_isi_int_bl, u_isi_int_int, u_isi_int_str, u_isi_int_tup, u_isi_int_lst, u_isi_int_scr, u_isi_int_dK, u_isi_bool_non, u_isi_bool_bl, u_isi_bool_int, u_isi_bool_str, u_isi_bool_tup, u_isi_bool_lst, u_isi_bool_scr, u_isi_bool_dK, u_isi_str_non, u_isi_str_bl, u_isi_str_int, u_isi_str_str, u_isi_str_tup, u_isi_str_lst, u_isi_str_scr, u_isi_str_dK, u_isi_tuple_non, u_isi_tuple_bl, u_isi_tuple_int, u_isi_tuple_str, u_isi_tuple_tup, u_isi_tuple_lst, u_isi_tuple_scr, u_isi_tuple_dK, u_isi_list_non, u_isi_list_bl, u_isi_list_int, u_isi_list_str, u_isi_list_tup, u_isi_list_lst, u_isi_list_scr, u_isi_list_dK, u_isis_lt_non, u_isis_lt_bl, u_isis_lt_int, u_isis_lt_str, u_isis_lt_tup, u_isis_lt_lst, u_isis_lt_scr, u_isis_lt_dK, w_listL, w_listT, w_listR, w_srtS, w_srt, y_seqL, y_seqT, y_rng, y_chars, s_n, s_t, s_nil, s_cons, c_F0, c_F1, c_F2, c_F3, c_F4, c_F5, c_F6, c_F7, c_F8, c_F9, c_F10, c_F11, c_G0, c_G1, c_G2, c_G3, c_G4, nilT, nil_v, nil_k, nil_g, nil_o1, nil_o2, nil_and, nil_or, nil_not, nil_ch, nil_call, kn_non, km_non, kn_bl, km_bl, kn_int, km_int, kn_str, km_str, kn_scr, km_scr, kn_tup, kn_lst, km_tup, km_lst, evS, evE, evA, evX, eqB, callP, partI, slotLoc, isLst, appL, Option.map_some, Option.map_none, Option.bind_some, List.getElem?_cons_zero, List.getElem?_cons_succ, List.map_cons, List.map_nil, List.length_cons, List.length_nil, List.set_cons_zero, List.set_cons_succ, List.cons_append, List.nil_append, List.replicate_succ, List.replicate_zero, Nat.zero_add, Nat.reduceAdd, Nat.reduceSub, Nat.reduceLT, Int.reduceLT, Int.reduceLE, Int.reduceNeg, eq_self, and_self, and_true, true_and, Nat.reduceLeDiff, if_true, Bool.false_eq_true, if_false, ite_true, ite_false, decide_true, decide_false, Bool.not_true, Bool.not_false, Bool.and_true, Bool.true_and, wipeR, List.all_cons, List.all_nil, at_n, at_0, at_1, at_2, at_l, e_res_dPlan, e_len_dPlan, e_idx_dPlan, e_seq_dPlan, e_isi_int_dPlan, e_isi_bool_dPlan, e_isi_str_dPlan, e_isi_tuple_dPlan, e_isi_list_dPlan, e_isis_dPlan, e_isN_dPlan, e_nisN_dPlan, e_res_dMode, e_len_dMode, e_idx_dMode, e_seq_dMode, e_isi_int_dMode, e_isi_bool_dMode, e_isi_str_dMode, e_isi_tuple_dMode, e_isi_list_dMode, e_isis_dMode, e_isN_dMode, e_nisN_dMode, e_res_stL, e_len_stL, e_idx_stL, e_seq_stL, e_isi_int_stL, e_isi_bool_stL, e_isi_str_stL, e_isi_tuple_stL, e_isi_list_stL, e_isis_stL, e_isN_stL, e_nisN_stL, e_res_iL, e_len_iL, e_idx_iL, e_seq_iL, e_isi_int_iL, e_isi_bool_iL, e_isi_str_iL, e_isi_tuple_iL, e_isi_list_iL, e_isis_iL, e_isN_iL, e_nisN_iL, e_res_iT, e_len_iT, e_idx_iT, e_seq_iT, e_isi_int_iT, e_isi_bool_iT, e_isi_str_iT, e_isi_tuple_iT, e_isi_list_iT, e_isis_iT, e_isN_iT, e_nisN_iT, e_res_sL, e_len_sL, e_idx_sL, e_seq_sL, e_isi_int_sL, e_isi_bool_sL, e_isi_str_sL, e_isi_tuple_sL, e_isi_list_sL, e_isis_sL, e_isN_sL, e_nisN_sL, e_res_sT, e_len_sT, e_idx_sT, e_seq_sT, e_isi_int_sT, e_isi_bool_sT, e_isi_str_sT, e_isi_tuple_sT, e_isi_list_sT, e_isis_sT, e_isN_sT, e_nisN_sT, e_tuple_iL, e_list_iL, e_app_iL, e_tuple_iT, e_list_iT, e_appT_iL, e_tuple_sL, e_list_sL, e_app_sL, e_tuple_sT, e_list_sT, e_appT_sL, e_tuple_stL, e_list_stL, e_app_stL, e_tuple_dMode, e_list_dMode, e_appT_stL, e_resS, e_lenS, e_idx0, e_idx1, e_setS, e_all, e_srtS, ok_step, ok_mode, ok_stL, ok_plan, ok_iL, ok_iT, ok_sL, ok_sT, cm_step, cm_mode, cm_stL, cm_plan, cm_iL, cm_iT, cm_sL, cm_sT, eq_sL, eq_iL, eqD_int, eqD_str, e_isi_int_S, e_isi_bool_S, e_isi_str_S, e_isi_tuple_S, e_isi_list_S, it1_eq, it2_eq, itN_int, frzN_int, itN_str, frzN_str, itN_tup, frzN_tup, itN_lst, frzN_lst, itN_dPlan, frzN_dPlan, itN_dMode, frzN_dMode, itN_stL, frzN_stL, itN_iL, frzN_iL, itN_iT, frzN_iT, itN_sL, frzN_sL, itN_sT, frzN_sT, itN_dStep, frzN_dStep, frz_eq, frzN_loc, res_loc, dBools_bl, dInts_int, h1, h2]
  · simp only [res_non, res_bl, res_int, res_str, res_tup, res_lst, res_scr, res_dK, bind_ok, bind_ex, bind_no, opt_some, opt_none, v_add, v_addL, v_addT, v_addS, v_sub, v_mul, v_mulL, v_fdiv, v_mod, v_eq, v_ne, v_lt, v_le, v_gt, v_ge, v_idxL, v_idxT, v_idxS, v_inS, v_ninS, v_inL, v_ninL, v_isN_non, v_nisN_non, v_isN_bl, v_nisN_bl, v_isN_int, v_nisN_int, v_isN_str, v_nisN_str, v_isN_tup, v_nisN_tup, v_isN_lst, v_nisN_lst, v_isN_scr, v_nisN_scr, v_isN_dK, v_nisN_dK, v_isB, v_nisB, u_lenL, u_lenT, u_lenC, u_lenD, u_neg, u_all, u_any, u_sum, u_tupL, u_tupT, u_tupR, u_intB, u_isi_int_non, u_isi_int_bl, u_isi_int_int, u_isi_int_str, u_isi_int_tup, u_isi_int_lst, u_isi_int_scr, u_isi_int_dK, u_isi_bool_non, u_isi_bool_bl, u_isi_bool_int, u_isi_bool_str, u_isi_bool_tup, u_isi_bool_lst, u_isi_bool_scr, u_isi_bool_dK, u_isi_str_non, u_isi_str_bl, u_isi_str_int, u_isi_str_str, u_isi_str_tup, u_isi_str_lst, u_isi_str_scr, u_isi_str_dK, u_isi_tuple_non, u_isi_tuple_bl, u_isi_tuple_int, u_isi_tuple_str, u_isi_tuple_tup, u_isi_tuple_lst, u_isi_tuple_scr, u_isi_tuple_dK, u_isi_list_non, u_isi_list_bl, u_isi_list_int, u_isi_list_str, u_isi_list_tup, u_isi_list_lst, u_isi_list_scr, u_isi_list_dK, u_isis_lt_non, u_isis_lt_bl, u_isis_lt_int, u_isis_lt_str, u_isis_lt_tup, u_isis_lt_lst, u_isis_lt_scr, u_isis_lt_dK, w_listL, w_listT, w_listR, w_srtS, w_srt, y_seqL, y_seqT, y_rng, y_chars, s_n, s_t, s_nil, s_cons, c_F0, c_F1, c_F2, c_F3, c_F4, c_F5, c_F6, c_F7, c_F8, c_F9, c_F10, c_F11, c_G0, c_G1, c_G2, c_G3, c_G4, nilT, nil_v, nil_k, nil_g, nil_o1, nil_o2, nil_and, nil_or, nil_not, nil_ch, nil_call, kn_non, km_non, kn_bl, km_bl, kn_int, km_int, kn_str, km_str, kn_scr, km_scr, kn_tup, kn_lst, km_tup, km_lst, evS, evE, evA, evX, eqB, callP, partI, slotLoc, isLst, appL, Option.map_some, Option.map_none, Option.bind_some, List.getElem?_cons_zero, List.getElem?_cons_succ, List.map_cons, List.map_nil, List.length_cons, List.length_nil, List.set_cons_zero, List.set_cons_succ, List.cons_append, List.nil_append, List.replicate_succ, List.replicate_zero, Nat.zero_add, Nat.reduceAdd, Nat.reduceSub, Nat.reduceLT, Int.reduceLT, Int.reduceLE, Int.reduceNeg, eq_self, and_self, and_true, true_and, Nat.reduceLeDiff, if_true, Bool.false_eq_true, if_false, ite_true, ite_false, decide_true, decide_false, Bool.not_true, Bool.not_false, Bool.and_true, Bool.true_and, wipeR, List.all_cons, List.all_nil, at_n, at_0, at_1, at_2, at_l, e_res_dPlan, e_len_dPlan, e_idx_dPlan, e_seq_dPlan, e_isi_int_dPlan, e_isi_bool_dPlan, e_isi_str_dPlan, e_isi_tuple_dPlan, e_isi_list_dPlan, e_isis_dPlan, e_isN_dPlan, e_nisN_dPlan, e_res_dMode, e_len_dMode, e_idx_dMode, e_seq_dMode, e_isi_int_dMode, e_isi_bool_dMode, e_isi_str_dMode, e_isi_tuple_dMode, e_isi_list_dMode, e_isis_dMode, e_isN_dMode, e_nisN_dMode, e_res_stL, e_len_stL, e_idx_stL, e_seq_stL, e_isi_int_stL, e_isi_bool_stL, e_isi_str_stL, e_isi_tuple_stL, e_isi_list_stL, e_isis_stL, e_isN_stL, e_nisN_stL, e_res_iL, e_len_iL, e_idx_iL, e_seq_iL, e_isi_int_iL, e_isi_bool_iL, e_isi_str_iL, e_isi_tuple_iL, e_isi_list_iL, e_isis_iL, e_isN_iL, e_nisN_iL, e_res_iT, e_len_iT, e_idx_iT, e_seq_iT, e_isi_int_iT, e_isi_bool_iT, e_isi_str_iT, e_isi_tuple_iT, e_isi_list_iT, e_isis_iT, e_isN_iT, e_nisN_iT, e_res_sL, e_len_sL, e_idx_sL, e_seq_sL, e_isi_int_sL, e_isi_bool_sL, e_isi_str_sL, e_isi_tuple_sL, e_isi_list_sL, e_isis_sL, e_isN_sL, e_nisN_sL, e_res_sT, e_len_sT, e_idx_sT, e_seq_sT, e_isi_int_sT, e_isi_bool_sT, e_isi_str_sT, e_isi_tuple_sT, e_isi_list_sT, e_isis_sT, e_isN_sT, e_nisN_sT, e_tuple_iL, e_list_iL, e_app_iL, e_tuple_iT, e_list_iT, e_appT_iL, e_tuple_sL, e_list_sL, e_app_sL, e_tuple_sT, e_list_sT, e_appT_sL, e_tuple_stL, e_list_stL, e_app_stL, e_tuple_dMode, e_list_dMode, e_appT_stL, e_resS, e_lenS, e_idx0, e_idx1, e_setS, e_all, e_srtS, ok_step, ok_mode, ok_stL, ok_plan, ok_iL, ok_iT, ok_sL, ok_sT, cm_step, cm_mode, cm_stL, cm_plan, cm_iL, cm_iT, cm_sL, cm_sT, eq_sL, eq_iL, eqD_int, eqD_str, e_isi_int_S, e_isi_bool_S, e_isi_str_S, e_isi_tuple_S, e_isi_list_S, it1_eq, it2_eq, itN_int, frzN_int, itN_str, frzN_str, itN_tup, frzN_tup, itN_lst, frzN_lst, itN_dPlan, frzN_dPlan, itN_dMode, frzN_dMode, itN_stL, frzN_stL, itN_iL, frzN_iL, itN_iT, frzN_iT, itN_sL, frzN_sL, itN_sT, frzN_sT, itN_dStep, frzN_dStep, frz_eq, frzN_loc, res_loc, dBools_bl, dInts_int, h1, Bool.false_and]
theorem step_ok (s : Step) (many : Int) (h : 0 ≤ s.1 ∧ s.1 < many) (hd : okDeed s.2 = true) : F_is_step [dStep s, .int many] = .ok (.bl true) := by
  unfold F_is_step runDef t_is_step
  have h1 : 0 ≤ s.1 := h.1
  have h2 : s.1 ≤ many - 1 := by omega
  simp only [res_non, res_bl, res_int, res_str, res_tup, res_lst, res_scr, res_dK, bind_ok, bind_ex, bind_no, opt_some, opt_none, v_add, v_addL, v_addT, v_addS, v_sub, v_mul, v_mulL, v_fdiv, v_mod, v_eq, v_ne, v_lt, v_le, v_gt, v_ge, v_idxL, v_idxT, v_idxS, v_inS, v_ninS, v_inL, v_ninL, v_isN_non, v_nisN_non, v_isN_bl, v_nisN_bl, v_isN_int, v_nisN_int, v_isN_str, v_nisN_str, v_isN_tup, v_nisN_tup, v_isN_lst, v_nisN_lst, v_isN_scr, v_nisN_scr, v_isN_dK, v_nisN_dK, v_isB, v_nisB, u_lenL, u_lenT, u_lenC, u_lenD, u_neg, u_all, u_any, u_sum, u_tupL, u_tupT, u_tupR, u_intB, u_isi_int_non, u_isi_int_bl, u_isi_int_int, u_isi_int_str, u_isi_int_tup, u_isi_int_lst, u_isi_int_scr, u_isi_int_dK, u_isi_bool_non, u_isi_bool_bl, u_isi_bool_int, u_isi_bool_str, u_isi_bool_tup, u_isi_bool_lst, u_isi_bool_scr, u_isi_bool_dK, u_isi_str_non, u_isi_str_bl, u_isi_str_int, u_isi_str_str, u_isi_str_tup, u_isi_str_lst, u_isi_str_scr, u_isi_str_dK, u_isi_tuple_non, u_isi_tuple_bl, u_isi_tuple_int, u_isi_tuple_str, u_isi_tuple_tup, u_isi_tuple_lst, u_isi_tuple_scr, u_isi_tuple_dK, u_isi_list_non, u_isi_list_bl, u_isi_list_int, u_isi_list_str, u_isi_list_tup, u_isi_list_lst, u_isi_list_scr, u_isi_list_dK, u_isis_lt_non, u_isis_lt_bl, u_isis_lt_int, u_isis_lt_str, u_isis_lt_tup, u_isis_lt_lst, u_isis_lt_scr, u_isis_lt_dK, w_listL, w_listT, w_listR, w_srtS, w_srt, y_seqL, y_seqT, y_rng, y_chars, s_n, s_t, s_nil, s_cons, c_F0, c_F1, c_F2, c_F3, c_F4, c_F5, c_F6, c_F7, c_F8, c_F9, c_F10, c_F11, c_G0, c_G1, c_G2, c_G3, c_G4, nilT, nil_v, nil_k, nil_g, nil_o1, nil_o2, nil_and, nil_or, nil_not, nil_ch, nil_call, kn_non, km_non, kn_bl, km_bl, kn_int, km_int, kn_str, km_str, kn_scr, km_scr, kn_tup, kn_lst, km_tup, km_lst, evS, evE, evA, evX, eqB, callP, partI, slotLoc, isLst, appL, Option.map_some, Option.map_none, Option.bind_some, List.getElem?_cons_zero, List.getElem?_cons_succ, List.map_cons, List.map_nil, List.length_cons, List.length_nil, List.set_cons_zero, List.set_cons_succ, List.cons_append, List.nil_append, List.replicate_succ, List.replicate_zero, Nat.zero_add, Nat.reduceAdd, Nat.reduceSub, Nat.reduceLT, Int.reduceLT, Int.reduceLE, Int.reduceNeg, eq_self, and_self, and_true, true_and, Nat.reduceLeDiff, if_true, Bool.false_eq_true, if_false, ite_true, ite_false, decide_true, decide_false, Bool.not_true, Bool.not_false, Bool.and_true, Bool.true_and, wipeR, List.all_cons, List.all_nil, at_n, at_0, at_1, at_2, at_l, e_res_dPlan, e_len_dPlan, e_idx_dPlan, e_seq_dPlan, e_isi_int_dPlan, e_isi_bool_dPlan, e_isi_str_dPlan, e_isi_tuple_dPlan, e_isi_list_dPlan, e_isis_dPlan, e_isN_dPlan, e_nisN_dPlan, e_res_dMode, e_len_dMode, e_idx_dMode, e_seq_dMode, e_isi_int_dMode, e_isi_bool_dMode, e_isi_str_dMode, e_isi_tuple_dMode, e_isi_list_dMode, e_isis_dMode, e_isN_dMode, e_nisN_dMode, e_res_stL, e_len_stL, e_idx_stL, e_seq_stL, e_isi_int_stL, e_isi_bool_stL, e_isi_str_stL, e_isi_tuple_stL, e_isi_list_stL, e_isis_stL, e_isN_stL, e_nisN_stL, e_res_iL, e_len_iL, e_idx_iL, e_seq_iL, e_isi_int_iL, e_isi_bool_iL, e_isi_str_iL, e_isi_tuple_iL, e_isi_list_iL, e_isis_iL, e_isN_iL, e_nisN_iL, e_res_iT, e_len_iT, e_idx_iT, e_seq_iT, e_isi_int_iT, e_isi_bool_iT, e_isi_str_iT, e_isi_tuple_iT, e_isi_list_iT, e_isis_iT, e_isN_iT, e_nisN_iT, e_res_sL, e_len_sL, e_idx_sL, e_seq_sL, e_isi_int_sL, e_isi_bool_sL, e_isi_str_sL, e_isi_tuple_sL, e_isi_list_sL, e_isis_sL, e_isN_sL, e_nisN_sL, e_res_sT, e_len_sT, e_idx_sT, e_seq_sT, e_isi_int_sT, e_isi_bool_sT, e_isi_str_sT, e_isi_tuple_sT, e_isi_list_sT, e_isis_sT, e_isN_sT, e_nisN_sT, e_tuple_iL, e_list_iL, e_app_iL, e_tuple_iT, e_list_iT, e_appT_iL, e_tuple_sL, e_list_sL, e_app_sL, e_tuple_sT, e_list_sT, e_appT_sL, e_tuple_stL, e_list_stL, e_app_stL, e_tuple_dMode, e_list_dMode, e_appT_stL, e_resS, e_lenS, e_idx0, e_idx1, e_setS, e_all, e_srtS, ok_step, ok_mode, ok_stL, ok_plan, ok_iL, ok_iT, ok_sL, ok_sT, cm_step, cm_mode, cm_stL, cm_plan, cm_iL, cm_iT, cm_sL, cm_sT, eq_sL, eq_iL, eqD_int, eqD_str, e_isi_int_S, e_isi_bool_S, e_isi_str_S, e_isi_tuple_S, e_isi_list_S, it1_eq, it2_eq, itN_int, frzN_int, itN_str, frzN_str, itN_tup, frzN_tup, itN_lst, frzN_lst, itN_dPlan, frzN_dPlan, itN_dMode, frzN_dMode, itN_stL, frzN_stL, itN_iL, frzN_iL, itN_iT, frzN_iT, itN_sL, frzN_sL, itN_sT, frzN_sT, itN_dStep, frzN_dStep, frz_eq, frzN_loc, res_loc, dBools_bl, dInts_int, E_is_step_F0, E_is_step_F1, whole_ok, okDeed_eq hd, h1, h2]
theorem plan_x1 {p : Plan} {B : Nat} (h : IsPlan p B) {m : List Step} (hm : m ∈ p) (x : Option D) (S : Sto) : evX E_is_plan t_is_plan_x1 [some (dPlan p), some (dMode m), x] S = .ok ((m.map fun _ => true).map D.bl) S := by
  unfold t_is_plan_x1
  simp only [res_non, res_bl, res_int, res_str, res_tup, res_lst, res_scr, res_dK, bind_ok, bind_ex, bind_no, opt_some, opt_none, v_add, v_addL, v_addT, v_addS, v_sub, v_mul, v_mulL, v_fdiv, v_mod, v_eq, v_ne, v_lt, v_le, v_gt, v_ge, v_idxL, v_idxT, v_idxS, v_inS, v_ninS, v_inL, v_ninL, v_isN_non, v_nisN_non, v_isN_bl, v_nisN_bl, v_isN_int, v_nisN_int, v_isN_str, v_nisN_str, v_isN_tup, v_nisN_tup, v_isN_lst, v_nisN_lst, v_isN_scr, v_nisN_scr, v_isN_dK, v_nisN_dK, v_isB, v_nisB, u_lenL, u_lenT, u_lenC, u_lenD, u_neg, u_all, u_any, u_sum, u_tupL, u_tupT, u_tupR, u_intB, u_isi_int_non, u_isi_int_bl, u_isi_int_int, u_isi_int_str, u_isi_int_tup, u_isi_int_lst, u_isi_int_scr, u_isi_int_dK, u_isi_bool_non, u_isi_bool_bl, u_isi_bool_int, u_isi_bool_str, u_isi_bool_tup, u_isi_bool_lst, u_isi_bool_scr, u_isi_bool_dK, u_isi_str_non, u_isi_str_bl, u_isi_str_int, u_isi_str_str, u_isi_str_tup, u_isi_str_lst, u_isi_str_scr, u_isi_str_dK, u_isi_tuple_non, u_isi_tuple_bl, u_isi_tuple_int, u_isi_tuple_str, u_isi_tuple_tup, u_isi_tuple_lst, u_isi_tuple_scr, u_isi_tuple_dK, u_isi_list_non, u_isi_list_bl, u_isi_list_int, u_isi_list_str, u_isi_list_tup, u_isi_list_lst, u_isi_list_scr, u_isi_list_dK, u_isis_lt_non, u_isis_lt_bl, u_isis_lt_int, u_isis_lt_str, u_isis_lt_tup, u_isis_lt_lst, u_isis_lt_scr, u_isis_lt_dK, w_listL, w_listT, w_listR, w_srtS, w_srt, y_seqL, y_seqT, y_rng, y_chars, s_n, s_t, s_nil, s_cons, c_F0, c_F1, c_F2, c_F3, c_F4, c_F5, c_F6, c_F7, c_F8, c_F9, c_F10, c_F11, c_G0, c_G1, c_G2, c_G3, c_G4, nilT, nil_v, nil_k, nil_g, nil_o1, nil_o2, nil_and, nil_or, nil_not, nil_ch, nil_call, kn_non, km_non, kn_bl, km_bl, kn_int, km_int, kn_str, km_str, kn_scr, km_scr, kn_tup, kn_lst, km_tup, km_lst, evS, evE, evA, evX, eqB, callP, partI, slotLoc, isLst, appL, Option.map_some, Option.map_none, Option.bind_some, List.getElem?_cons_zero, List.getElem?_cons_succ, List.map_cons, List.map_nil, List.length_cons, List.length_nil, List.set_cons_zero, List.set_cons_succ, List.cons_append, List.nil_append, List.replicate_succ, List.replicate_zero, Nat.zero_add, Nat.reduceAdd, Nat.reduceSub, Nat.reduceLT, Int.reduceLT, Int.reduceLE, Int.reduceNeg, eq_self, and_self, and_true, true_and, Nat.reduceLeDiff, if_true, Bool.false_eq_true, if_false, ite_true, ite_false, decide_true, decide_false, Bool.not_true, Bool.not_false, Bool.and_true, Bool.true_and, wipeR, List.all_cons, List.all_nil, at_n, at_0, at_1, at_2, at_l, e_res_dPlan, e_len_dPlan, e_idx_dPlan, e_seq_dPlan, e_isi_int_dPlan, e_isi_bool_dPlan, e_isi_str_dPlan, e_isi_tuple_dPlan, e_isi_list_dPlan, e_isis_dPlan, e_isN_dPlan, e_nisN_dPlan, e_res_dMode, e_len_dMode, e_idx_dMode, e_seq_dMode, e_isi_int_dMode, e_isi_bool_dMode, e_isi_str_dMode, e_isi_tuple_dMode, e_isi_list_dMode, e_isis_dMode, e_isN_dMode, e_nisN_dMode, e_res_stL, e_len_stL, e_idx_stL, e_seq_stL, e_isi_int_stL, e_isi_bool_stL, e_isi_str_stL, e_isi_tuple_stL, e_isi_list_stL, e_isis_stL, e_isN_stL, e_nisN_stL, e_res_iL, e_len_iL, e_idx_iL, e_seq_iL, e_isi_int_iL, e_isi_bool_iL, e_isi_str_iL, e_isi_tuple_iL, e_isi_list_iL, e_isis_iL, e_isN_iL, e_nisN_iL, e_res_iT, e_len_iT, e_idx_iT, e_seq_iT, e_isi_int_iT, e_isi_bool_iT, e_isi_str_iT, e_isi_tuple_iT, e_isi_list_iT, e_isis_iT, e_isN_iT, e_nisN_iT, e_res_sL, e_len_sL, e_idx_sL, e_seq_sL, e_isi_int_sL, e_isi_bool_sL, e_isi_str_sL, e_isi_tuple_sL, e_isi_list_sL, e_isis_sL, e_isN_sL, e_nisN_sL, e_res_sT, e_len_sT, e_idx_sT, e_seq_sT, e_isi_int_sT, e_isi_bool_sT, e_isi_str_sT, e_isi_tuple_sT, e_isi_list_sT, e_isis_sT, e_isN_sT, e_nisN_sT, e_tuple_iL, e_list_iL, e_app_iL, e_tuple_iT, e_list_iT, e_appT_iL, e_tuple_sL, e_list_sL, e_app_sL, e_tuple_sT, e_list_sT, e_appT_sL, e_tuple_stL, e_list_stL, e_app_stL, e_tuple_dMode, e_list_dMode, e_appT_stL, e_resS, e_lenS, e_idx0, e_idx1, e_setS, e_all, e_srtS, ok_step, ok_mode, ok_stL, ok_plan, ok_iL, ok_iT, ok_sL, ok_sT, cm_step, cm_mode, cm_stL, cm_plan, cm_iL, cm_iT, cm_sL, cm_sT, eq_sL, eq_iL, eqD_int, eqD_str, e_isi_int_S, e_isi_bool_S, e_isi_str_S, e_isi_tuple_S, e_isi_list_S, it1_eq, it2_eq, itN_int, frzN_int, itN_str, frzN_str, itN_tup, frzN_tup, itN_lst, frzN_lst, itN_dPlan, frzN_dPlan, itN_dMode, frzN_dMode, itN_stL, frzN_stL, itN_iL, frzN_iL, itN_iT, frzN_iT, itN_sL, frzN_sL, itN_sT, frzN_sT, itN_dStep, frzN_dStep, frz_eq, frzN_loc, res_loc, dBools_bl, dInts_int]
  rw [compL_map (fun _ => .bl true)]
  · simp
  · have := h.len m hm
    have := h.b3
    have := sizeLine_big
    rw [List.length_map]; omega
  · intro d hd
    obtain ⟨s, hs, rfl⟩ := List.mem_map.mp hd
    refine ⟨_, rfl, ?_⟩
    simp only [res_non, res_bl, res_int, res_str, res_tup, res_lst, res_scr, res_dK, bind_ok, bind_ex, bind_no, opt_some, opt_none, v_add, v_addL, v_addT, v_addS, v_sub, v_mul, v_mulL, v_fdiv, v_mod, v_eq, v_ne, v_lt, v_le, v_gt, v_ge, v_idxL, v_idxT, v_idxS, v_inS, v_ninS, v_inL, v_ninL, v_isN_non, v_nisN_non, v_isN_bl, v_nisN_bl, v_isN_int, v_nisN_int, v_isN_str, v_nisN_str, v_isN_tup, v_nisN_tup, v_isN_lst, v_nisN_lst, v_isN_scr, v_nisN_scr, v_isN_dK, v_nisN_dK, v_isB, v_nisB, u_lenL, u_lenT, u_lenC, u_lenD, u_neg, u_all, u_any, u_sum, u_tupL, u_tupT, u_tupR, u_intB, u_isi_int_non, u_isi_int_bl, u_isi_int_int, u_isi_int_str, u_isi_int_tup, u_isi_int_lst, u_isi_int_scr, u_isi_int_dK, u_isi_bool_non, u_isi_bool_bl, u_isi_bool_int, u_isi_bool_str, u_isi_bool_tup, u_isi_bool_lst, u_isi_bool_scr, u_isi_bool_dK, u_isi_str_non, u_isi_str_bl, u_isi_str_int, u_isi_str_str, u_isi_str_tup, u_isi_str_lst, u_isi_str_scr, u_isi_str_dK, u_isi_tuple_non, u_isi_tuple_bl, u_isi_tuple_int, u_isi_tuple_str, u_isi_tuple_tup, u_isi_tuple_lst, u_isi_tuple_scr, u_isi_tuple_dK, u_isi_list_non, u_isi_list_bl, u_isi_list_int, u_isi_list_str, u_isi_list_tup, u_isi_list_lst, u_isi_list_scr, u_isi_list_dK, u_isis_lt_non, u_isis_lt_bl, u_isis_lt_int, u_isis_lt_str, u_isis_lt_tup, u_isis_lt_lst, u_isis_lt_scr, u_isis_lt_dK, w_listL, w_listT, w_listR, w_srtS, w_srt, y_seqL, y_seqT, y_rng, y_chars, s_n, s_t, s_nil, s_cons, c_F0, c_F1, c_F2, c_F3, c_F4, c_F5, c_F6, c_F7, c_F8, c_F9, c_F10, c_F11, c_G0, c_G1, c_G2, c_G3, c_G4, nilT, nil_v, nil_k, nil_g, nil_o1, nil_o2, nil_and, nil_or, nil_not, nil_ch, nil_call, kn_non, km_non, kn_bl, km_bl, kn_int, km_int, kn_str, km_str, kn_scr, km_scr, kn_tup, kn_lst, km_tup, km_lst, evS, evE, evA, evX, eqB, callP, partI, slotLoc, isLst, appL, Option.map_some, Option.map_none, Option.bind_some, List.getElem?_cons_zero, List.getElem?_cons_succ, List.map_cons, List.map_nil, List.length_cons, List.length_nil, List.set_cons_zero, List.set_cons_succ, List.cons_append, List.nil_append, List.replicate_succ, List.replicate_zero, Nat.zero_add, Nat.reduceAdd, Nat.reduceSub, Nat.reduceLT, Int.reduceLT, Int.reduceLE, Int.reduceNeg, eq_self, and_self, and_true, true_and, Nat.reduceLeDiff, if_true, Bool.false_eq_true, if_false, ite_true, ite_false, decide_true, decide_false, Bool.not_true, Bool.not_false, Bool.and_true, Bool.true_and, wipeR, List.all_cons, List.all_nil, at_n, at_0, at_1, at_2, at_l, e_res_dPlan, e_len_dPlan, e_idx_dPlan, e_seq_dPlan, e_isi_int_dPlan, e_isi_bool_dPlan, e_isi_str_dPlan, e_isi_tuple_dPlan, e_isi_list_dPlan, e_isis_dPlan, e_isN_dPlan, e_nisN_dPlan, e_res_dMode, e_len_dMode, e_idx_dMode, e_seq_dMode, e_isi_int_dMode, e_isi_bool_dMode, e_isi_str_dMode, e_isi_tuple_dMode, e_isi_list_dMode, e_isis_dMode, e_isN_dMode, e_nisN_dMode, e_res_stL, e_len_stL, e_idx_stL, e_seq_stL, e_isi_int_stL, e_isi_bool_stL, e_isi_str_stL, e_isi_tuple_stL, e_isi_list_stL, e_isis_stL, e_isN_stL, e_nisN_stL, e_res_iL, e_len_iL, e_idx_iL, e_seq_iL, e_isi_int_iL, e_isi_bool_iL, e_isi_str_iL, e_isi_tuple_iL, e_isi_list_iL, e_isis_iL, e_isN_iL, e_nisN_iL, e_res_iT, e_len_iT, e_idx_iT, e_seq_iT, e_isi_int_iT, e_isi_bool_iT, e_isi_str_iT, e_isi_tuple_iT, e_isi_list_iT, e_isis_iT, e_isN_iT, e_nisN_iT, e_res_sL, e_len_sL, e_idx_sL, e_seq_sL, e_isi_int_sL, e_isi_bool_sL, e_isi_str_sL, e_isi_tuple_sL, e_isi_list_sL, e_isis_sL, e_isN_sL, e_nisN_sL, e_res_sT, e_len_sT, e_idx_sT, e_seq_sT, e_isi_int_sT, e_isi_bool_sT, e_isi_str_sT, e_isi_tuple_sT, e_isi_list_sT, e_isis_sT, e_isN_sT, e_nisN_sT, e_tuple_iL, e_list_iL, e_app_iL, e_tuple_iT, e_list_iT, e_appT_iL, e_tuple_sL, e_list_sL, e_app_sL, e_tuple_sT, e_list_sT, e_appT_sL, e_tuple_stL, e_list_stL, e_app_stL, e_tuple_dMode, e_list_dMode, e_appT_stL, e_resS, e_lenS, e_idx0, e_idx1, e_setS, e_all, e_srtS, ok_step, ok_mode, ok_stL, ok_plan, ok_iL, ok_iT, ok_sL, ok_sT, cm_step, cm_mode, cm_stL, cm_plan, cm_iL, cm_iT, cm_sL, cm_sT, eq_sL, eq_iL, eqD_int, eqD_str, e_isi_int_S, e_isi_bool_S, e_isi_str_S, e_isi_tuple_S, e_isi_list_S, it1_eq, it2_eq, itN_int, frzN_int, itN_str, frzN_str, itN_tup, frzN_tup, itN_lst, frzN_lst, itN_dPlan, frzN_dPlan, itN_dMode, frzN_dMode, itN_stL, frzN_stL, itN_iL, frzN_iL, itN_iT, frzN_iT, itN_sL, frzN_sL, itN_sT, frzN_sT, itN_dStep, frzN_dStep, frz_eq, frzN_loc, res_loc, dBools_bl, dInts_int, E_is_plan_F0, E_is_plan_G0, E_is_plan_G1, step_ok s p.length (h.goal m hm s hs) (h.deed m hm s hs)]
theorem all_true {α : Type} (l : List α) : (l.map fun _ => true).all id = true := by
  induction l with
  | nil => rfl
  | cons a l ih => simpa using ih
theorem plan_b1 {p : Plan} {B : Nat} (h : IsPlan p B) {m : List Step} (hm : m ∈ p) (x : Option D) : evS E_is_plan t_is_plan_b1 [some (dPlan p), some (dMode m), x] [] = .nx [some (dPlan p), some (dMode m), x] [] := by
  unfold t_is_plan_b1
  have hl := h.len m hm
  have h1 : (1 : Int) ≤ (B : Nat) := by have := h.b1; omega
  have h3 : ((B : Nat) : Int) ≤ 3 := by have := h.b3; omega
  obtain ⟨m0, hm0⟩ : ∃ m0, p[0]? = some m0 := ⟨p[0]'(by have := h.one; omega), by simp⟩
  have hl0 := h.len m0 (List.mem_of_getElem? hm0)
  simp only [res_non, res_bl, res_int, res_str, res_tup, res_lst, res_scr, res_dK, bind_ok, bind_ex, bind_no, opt_some, opt_none, v_add, v_addL, v_addT, v_addS, v_sub, v_mul, v_mulL, v_fdiv, v_mod, v_eq, v_ne, v_lt, v_le, v_gt, v_ge, v_idxL, v_idxT, v_idxS, v_inS, v_ninS, v_inL, v_ninL, v_isN_non, v_nisN_non, v_isN_bl, v_nisN_bl, v_isN_int, v_nisN_int, v_isN_str, v_nisN_str, v_isN_tup, v_nisN_tup, v_isN_lst, v_nisN_lst, v_isN_scr, v_nisN_scr, v_isN_dK, v_nisN_dK, v_isB, v_nisB, u_lenL, u_lenT, u_lenC, u_lenD, u_neg, u_all, u_any, u_sum, u_tupL, u_tupT, u_tupR, u_intB, u_isi_int_non, u_isi_int_bl, u_isi_int_int, u_isi_int_str, u_isi_int_tup, u_isi_int_lst, u_isi_int_scr, u_isi_int_dK, u_isi_bool_non, u_isi_bool_bl, u_isi_bool_int, u_isi_bool_str, u_isi_bool_tup, u_isi_bool_lst, u_isi_bool_scr, u_isi_bool_dK, u_isi_str_non, u_isi_str_bl, u_isi_str_int, u_isi_str_str, u_isi_str_tup, u_isi_str_lst, u_isi_str_scr, u_isi_str_dK, u_isi_tuple_non, u_isi_tuple_bl, u_isi_tuple_int, u_isi_tuple_str, u_isi_tuple_tup, u_isi_tuple_lst, u_isi_tuple_scr, u_isi_tuple_dK, u_isi_list_non, u_isi_list_bl, u_isi_list_int, u_isi_list_str, u_isi_list_tup, u_isi_list_lst, u_isi_list_scr, u_isi_list_dK, u_isis_lt_non, u_isis_lt_bl, u_isis_lt_int, u_isis_lt_str, u_isis_lt_tup, u_isis_lt_lst, u_isis_lt_scr, u_isis_lt_dK, w_listL, w_listT, w_listR, w_srtS, w_srt, y_seqL, y_seqT, y_rng, y_chars, s_n, s_t, s_nil, s_cons, c_F0, c_F1, c_F2, c_F3, c_F4, c_F5, c_F6, c_F7, c_F8, c_F9, c_F10, c_F11, c_G0, c_G1, c_G2, c_G3, c_G4, nilT, nil_v, nil_k, nil_g, nil_o1, nil_o2, nil_and, nil_or, nil_not, nil_ch, nil_call, kn_non, km_non, kn_bl, km_bl, kn_int, km_int, kn_str, km_str, kn_scr, km_scr, kn_tup, kn_lst, km_tup, km_lst, evS, evE, evA, evX, eqB, callP, partI, slotLoc, isLst, appL, Option.map_some, Option.map_none, Option.bind_some, List.getElem?_cons_zero, List.getElem?_cons_succ, List.map_cons, List.map_nil, List.length_cons, List.length_nil, List.set_cons_zero, List.set_cons_succ, List.cons_append, List.nil_append, List.replicate_succ, List.replicate_zero, Nat.zero_add, Nat.reduceAdd, Nat.reduceSub, Nat.reduceLT, Int.reduceLT, Int.reduceLE, Int.reduceNeg, eq_self, and_self, and_true, true_and, Nat.reduceLeDiff, if_true, Bool.false_eq_true, if_false, ite_true, ite_false, decide_true, decide_false, Bool.not_true, Bool.not_false, Bool.and_true, Bool.true_and, wipeR, List.all_cons, List.all_nil, at_n, at_0, at_1, at_2, at_l, e_res_dPlan, e_len_dPlan, e_idx_dPlan, e_seq_dPlan, e_isi_int_dPlan, e_isi_bool_dPlan, e_isi_str_dPlan, e_isi_tuple_dPlan, e_isi_list_dPlan, e_isis_dPlan, e_isN_dPlan, e_nisN_dPlan, e_res_dMode, e_len_dMode, e_idx_dMode, e_seq_dMode, e_isi_int_dMode, e_isi_bool_dMode, e_isi_str_dMode, e_isi_tuple_dMode, e_isi_list_dMode, e_isis_dMode, e_isN_dMode, e_nisN_dMode, e_res_stL, e_len_stL, e_idx_stL, e_seq_stL, e_isi_int_stL, e_isi_bool_stL, e_isi_str_stL, e_isi_tuple_stL, e_isi_list_stL, e_isis_stL, e_isN_stL, e_nisN_stL, e_res_iL, e_len_iL, e_idx_iL, e_seq_iL, e_isi_int_iL, e_isi_bool_iL, e_isi_str_iL, e_isi_tuple_iL, e_isi_list_iL, e_isis_iL, e_isN_iL, e_nisN_iL, e_res_iT, e_len_iT, e_idx_iT, e_seq_iT, e_isi_int_iT, e_isi_bool_iT, e_isi_str_iT, e_isi_tuple_iT, e_isi_list_iT, e_isis_iT, e_isN_iT, e_nisN_iT, e_res_sL, e_len_sL, e_idx_sL, e_seq_sL, e_isi_int_sL, e_isi_bool_sL, e_isi_str_sL, e_isi_tuple_sL, e_isi_list_sL, e_isis_sL, e_isN_sL, e_nisN_sL, e_res_sT, e_len_sT, e_idx_sT, e_seq_sT, e_isi_int_sT, e_isi_bool_sT, e_isi_str_sT, e_isi_tuple_sT, e_isi_list_sT, e_isis_sT, e_isN_sT, e_nisN_sT, e_tuple_iL, e_list_iL, e_app_iL, e_tuple_iT, e_list_iT, e_appT_iL, e_tuple_sL, e_list_sL, e_app_sL, e_tuple_sT, e_list_sT, e_appT_sL, e_tuple_stL, e_list_stL, e_app_stL, e_tuple_dMode, e_list_dMode, e_appT_stL, e_resS, e_lenS, e_idx0, e_idx1, e_setS, e_all, e_srtS, ok_step, ok_mode, ok_stL, ok_plan, ok_iL, ok_iT, ok_sL, ok_sT, cm_step, cm_mode, cm_stL, cm_plan, cm_iL, cm_iT, cm_sL, cm_sT, eq_sL, eq_iL, eqD_int, eqD_str, e_isi_int_S, e_isi_bool_S, e_isi_str_S, e_isi_tuple_S, e_isi_list_S, it1_eq, it2_eq, itN_int, frzN_int, itN_str, frzN_str, itN_tup, frzN_tup, itN_lst, frzN_lst, itN_dPlan, frzN_dPlan, itN_dMode, frzN_dMode, itN_stL, frzN_stL, itN_iL, frzN_iL, itN_iT, frzN_iT, itN_sL, frzN_sL, itN_sT, frzN_sT, itN_dStep, frzN_dStep, frz_eq, frzN_loc, res_loc, dBools_bl, dInts_int, E_is_plan_F0, E_is_plan_G0, E_is_plan_G1, hl, hl0, h1, h3, hm0, plan_x1 h hm, all_true]
theorem plan_ok {p : Plan} {B : Nat} (h : IsPlan p B) : F_is_plan [dPlan p] = .ok (.bl true) := by
  unfold F_is_plan runDef t_is_plan t_is_plan_f1
  have h1 : (1 : Int) ≤ p.length := by have := h.one; omega
  have h2 : (p.length : Int) ≤ 6 := by have := h.six; omega
  obtain ⟨r', S', e, x, y, rfl, rfl⟩ := forL_inv (tg := .n 1) (b := fun r S => evS E_is_plan t_is_plan_b1 r S) (fun _ r S => ∃ x y, r = [some (dPlan p), x, y] ∧ S = []) (p.map dMode) 0 [some (dPlan p), none, none] [] ⟨_, _, rfl, rfl⟩ (by
    rintro i d r S hd ⟨x, y, rfl, rfl⟩
    rw [List.getElem?_map] at hd
    cases hm : p[i]? with
    | none => rw [hm] at hd; cases hd
    | some m =>
      rw [hm] at hd
      cases hd
      exact ⟨_, _, _, rfl, .inl (plan_b1 h (List.mem_of_getElem? hm) y), _, _, rfl, rfl⟩)
  simp only [res_non, res_bl, res_int, res_str, res_tup, res_lst, res_scr, res_dK, bind_ok, bind_ex, bind_no, opt_some, opt_none, v_add, v_addL, v_addT, v_addS, v_sub, v_mul, v_mulL, v_fdiv, v_mod, v_eq, v_ne, v_lt, v_le, v_gt, v_ge, v_idxL, v_idxT, v_idxS, v_inS, v_ninS, v_inL, v_ninL, v_isN_non, v_nisN_non, v_isN_bl, v_nisN_bl, v_isN_int, v_nisN_int, v_isN_str, v_nisN_str, v_isN_tup, v_nisN_tup, v_isN_lst, v_nisN_lst, v_isN_scr, v_nisN_scr, v_isN_dK, v_nisN_dK, v_isB, v_nisB, u_lenL, u_lenT, u_lenC, u_lenD, u_neg, u_all, u_any, u_sum, u_tupL, u_tupT, u_tupR, u_intB, u_isi_int_non, u_isi_int_bl, u_isi_int_int, u_isi_int_str, u_isi_int_tup, u_isi_int_lst, u_isi_int_scr, u_isi_int_dK, u_isi_bool_non, u_isi_bool_bl, u_isi_bool_int, u_isi_bool_str, u_isi_bool_tup, u_isi_bool_lst, u_isi_bool_scr, u_isi_bool_dK, u_isi_str_non, u_isi_str_bl, u_isi_str_int, u_isi_str_str, u_isi_str_tup, u_isi_str_lst, u_isi_str_scr, u_isi_str_dK, u_isi_tuple_non, u_isi_tuple_bl, u_isi_tuple_int, u_isi_tuple_str, u_isi_tuple_tup, u_isi_tuple_lst, u_isi_tuple_scr, u_isi_tuple_dK, u_isi_list_non, u_isi_list_bl, u_isi_list_int, u_isi_list_str, u_isi_list_tup, u_isi_list_lst, u_isi_list_scr, u_isi_list_dK, u_isis_lt_non, u_isis_lt_bl, u_isis_lt_int, u_isis_lt_str, u_isis_lt_tup, u_isis_lt_lst, u_isis_lt_scr, u_isis_lt_dK, w_listL, w_listT, w_listR, w_srtS, w_srt, y_seqL, y_seqT, y_rng, y_chars, s_n, s_t, s_nil, s_cons, c_F0, c_F1, c_F2, c_F3, c_F4, c_F5, c_F6, c_F7, c_F8, c_F9, c_F10, c_F11, c_G0, c_G1, c_G2, c_G3, c_G4, nilT, nil_v, nil_k, nil_g, nil_o1, nil_o2, nil_and, nil_or, nil_not, nil_ch, nil_call, kn_non, km_non, kn_bl, km_bl, kn_int, km_int, kn_str, km_str, kn_scr, km_scr, kn_tup, kn_lst, km_tup, km_lst, evS, evE, evA, evX, eqB, callP, partI, slotLoc, isLst, appL, Option.map_some, Option.map_none, Option.bind_some, List.getElem?_cons_zero, List.getElem?_cons_succ, List.map_cons, List.map_nil, List.length_cons, List.length_nil, List.set_cons_zero, List.set_cons_succ, List.cons_append, List.nil_append, List.replicate_succ, List.replicate_zero, Nat.zero_add, Nat.reduceAdd, Nat.reduceSub, Nat.reduceLT, Int.reduceLT, Int.reduceLE, Int.reduceNeg, eq_self, and_self, and_true, true_and, Nat.reduceLeDiff, if_true, Bool.false_eq_true, if_false, ite_true, ite_false, decide_true, decide_false, Bool.not_true, Bool.not_false, Bool.and_true, Bool.true_and, wipeR, List.all_cons, List.all_nil, at_n, at_0, at_1, at_2, at_l, e_res_dPlan, e_len_dPlan, e_idx_dPlan, e_seq_dPlan, e_isi_int_dPlan, e_isi_bool_dPlan, e_isi_str_dPlan, e_isi_tuple_dPlan, e_isi_list_dPlan, e_isis_dPlan, e_isN_dPlan, e_nisN_dPlan, e_res_dMode, e_len_dMode, e_idx_dMode, e_seq_dMode, e_isi_int_dMode, e_isi_bool_dMode, e_isi_str_dMode, e_isi_tuple_dMode, e_isi_list_dMode, e_isis_dMode, e_isN_dMode, e_nisN_dMode, e_res_stL, e_len_stL, e_idx_stL, e_seq_stL, e_isi_int_stL, e_isi_bool_stL, e_isi_str_stL, e_isi_tuple_stL, e_isi_list_stL, e_isis_stL, e_isN_stL, e_nisN_stL, e_res_iL, e_len_iL, e_idx_iL, e_seq_iL, e_isi_int_iL, e_isi_bool_iL, e_isi_str_iL, e_isi_tuple_iL, e_isi_list_iL, e_isis_iL, e_isN_iL, e_nisN_iL, e_res_iT, e_len_iT, e_idx_iT, e_seq_iT, e_isi_int_iT, e_isi_bool_iT, e_isi_str_iT, e_isi_tuple_iT, e_isi_list_iT, e_isis_iT, e_isN_iT, e_nisN_iT, e_res_sL, e_len_sL, e_idx_sL, e_seq_sL, e_isi_int_sL, e_isi_bool_sL, e_isi_str_sL, e_isi_tuple_sL, e_isi_list_sL, e_isis_sL, e_isN_sL, e_nisN_sL, e_res_sT, e_len_sT, e_idx_sT, e_seq_sT, e_isi_int_sT, e_isi_bool_sT, e_isi_str_sT, e_isi_tuple_sT, e_isi_list_sT, e_isis_sT, e_isN_sT, e_nisN_sT, e_tuple_iL, e_list_iL, e_app_iL, e_tuple_iT, e_list_iT, e_appT_iL, e_tuple_sL, e_list_sL, e_app_sL, e_tuple_sT, e_list_sT, e_appT_sL, e_tuple_stL, e_list_stL, e_app_stL, e_tuple_dMode, e_list_dMode, e_appT_stL, e_resS, e_lenS, e_idx0, e_idx1, e_setS, e_all, e_srtS, ok_step, ok_mode, ok_stL, ok_plan, ok_iL, ok_iT, ok_sL, ok_sT, cm_step, cm_mode, cm_stL, cm_plan, cm_iL, cm_iT, cm_sL, cm_sT, eq_sL, eq_iL, eqD_int, eqD_str, e_isi_int_S, e_isi_bool_S, e_isi_str_S, e_isi_tuple_S, e_isi_list_S, it1_eq, it2_eq, itN_int, frzN_int, itN_str, frzN_str, itN_tup, frzN_tup, itN_lst, frzN_lst, itN_dPlan, frzN_dPlan, itN_dMode, frzN_dMode, itN_stL, frzN_stL, itN_iL, frzN_iL, itN_iT, frzN_iT, itN_sL, frzN_sL, itN_sT, frzN_sT, itN_dStep, frzN_dStep, frz_eq, frzN_loc, res_loc, dBools_bl, dInts_int, E_is_plan_F0, E_is_plan_G0, E_is_plan_G1, h1, h2, e]
theorem look_ok {p : Plan} {B : Nat} (h : IsPlan p B) : F_look_plan [dPlan p] = .ok .non := by
  unfold F_look_plan runDef t_look_plan
  simp only [res_non, res_bl, res_int, res_str, res_tup, res_lst, res_scr, res_dK, bind_ok, bind_ex, bind_no, opt_some, opt_none, v_add, v_addL, v_addT, v_addS, v_sub, v_mul, v_mulL, v_fdiv, v_mod, v_eq, v_ne, v_lt, v_le, v_gt, v_ge, v_idxL, v_idxT, v_idxS, v_inS, v_ninS, v_inL, v_ninL, v_isN_non, v_nisN_non, v_isN_bl, v_nisN_bl, v_isN_int, v_nisN_int, v_isN_str, v_nisN_str, v_isN_tup, v_nisN_tup, v_isN_lst, v_nisN_lst, v_isN_scr, v_nisN_scr, v_isN_dK, v_nisN_dK, v_isB, v_nisB, u_lenL, u_lenT, u_lenC, u_lenD, u_neg, u_all, u_any, u_sum, u_tupL, u_tupT, u_tupR, u_intB, u_isi_int_non, u_isi_int_bl, u_isi_int_int, u_isi_int_str, u_isi_int_tup, u_isi_int_lst, u_isi_int_scr, u_isi_int_dK, u_isi_bool_non, u_isi_bool_bl, u_isi_bool_int, u_isi_bool_str, u_isi_bool_tup, u_isi_bool_lst, u_isi_bool_scr, u_isi_bool_dK, u_isi_str_non, u_isi_str_bl, u_isi_str_int, u_isi_str_str, u_isi_str_tup, u_isi_str_lst, u_isi_str_scr, u_isi_str_dK, u_isi_tuple_non, u_isi_tuple_bl, u_isi_tuple_int, u_isi_tuple_str, u_isi_tuple_tup, u_isi_tuple_lst, u_isi_tuple_scr, u_isi_tuple_dK, u_isi_list_non, u_isi_list_bl, u_isi_list_int, u_isi_list_str, u_isi_list_tup, u_isi_list_lst, u_isi_list_scr, u_isi_list_dK, u_isis_lt_non, u_isis_lt_bl, u_isis_lt_int, u_isis_lt_str, u_isis_lt_tup, u_isis_lt_lst, u_isis_lt_scr, u_isis_lt_dK, w_listL, w_listT, w_listR, w_srtS, w_srt, y_seqL, y_seqT, y_rng, y_chars, s_n, s_t, s_nil, s_cons, c_F0, c_F1, c_F2, c_F3, c_F4, c_F5, c_F6, c_F7, c_F8, c_F9, c_F10, c_F11, c_G0, c_G1, c_G2, c_G3, c_G4, nilT, nil_v, nil_k, nil_g, nil_o1, nil_o2, nil_and, nil_or, nil_not, nil_ch, nil_call, kn_non, km_non, kn_bl, km_bl, kn_int, km_int, kn_str, km_str, kn_scr, km_scr, kn_tup, kn_lst, km_tup, km_lst, evS, evE, evA, evX, eqB, callP, partI, slotLoc, isLst, appL, Option.map_some, Option.map_none, Option.bind_some, List.getElem?_cons_zero, List.getElem?_cons_succ, List.map_cons, List.map_nil, List.length_cons, List.length_nil, List.set_cons_zero, List.set_cons_succ, List.cons_append, List.nil_append, List.replicate_succ, List.replicate_zero, Nat.zero_add, Nat.reduceAdd, Nat.reduceSub, Nat.reduceLT, Int.reduceLT, Int.reduceLE, Int.reduceNeg, eq_self, and_self, and_true, true_and, Nat.reduceLeDiff, if_true, Bool.false_eq_true, if_false, ite_true, ite_false, decide_true, decide_false, Bool.not_true, Bool.not_false, Bool.and_true, Bool.true_and, wipeR, List.all_cons, List.all_nil, at_n, at_0, at_1, at_2, at_l, e_res_dPlan, e_len_dPlan, e_idx_dPlan, e_seq_dPlan, e_isi_int_dPlan, e_isi_bool_dPlan, e_isi_str_dPlan, e_isi_tuple_dPlan, e_isi_list_dPlan, e_isis_dPlan, e_isN_dPlan, e_nisN_dPlan, e_res_dMode, e_len_dMode, e_idx_dMode, e_seq_dMode, e_isi_int_dMode, e_isi_bool_dMode, e_isi_str_dMode, e_isi_tuple_dMode, e_isi_list_dMode, e_isis_dMode, e_isN_dMode, e_nisN_dMode, e_res_stL, e_len_stL, e_idx_stL, e_seq_stL, e_isi_int_stL, e_isi_bool_stL, e_isi_str_stL, e_isi_tuple_stL, e_isi_list_stL, e_isis_stL, e_isN_stL, e_nisN_stL, e_res_iL, e_len_iL, e_idx_iL, e_seq_iL, e_isi_int_iL, e_isi_bool_iL, e_isi_str_iL, e_isi_tuple_iL, e_isi_list_iL, e_isis_iL, e_isN_iL, e_nisN_iL, e_res_iT, e_len_iT, e_idx_iT, e_seq_iT, e_isi_int_iT, e_isi_bool_iT, e_isi_str_iT, e_isi_tuple_iT, e_isi_list_iT, e_isis_iT, e_isN_iT, e_nisN_iT, e_res_sL, e_len_sL, e_idx_sL, e_seq_sL, e_isi_int_sL, e_isi_bool_sL, e_isi_str_sL, e_isi_tuple_sL, e_isi_list_sL, e_isis_sL, e_isN_sL, e_nisN_sL, e_res_sT, e_len_sT, e_idx_sT, e_seq_sT, e_isi_int_sT, e_isi_bool_sT, e_isi_str_sT, e_isi_tuple_sT, e_isi_list_sT, e_isis_sT, e_isN_sT, e_nisN_sT, e_tuple_iL, e_list_iL, e_app_iL, e_tuple_iT, e_list_iT, e_appT_iL, e_tuple_sL, e_list_sL, e_app_sL, e_tuple_sT, e_list_sT, e_appT_sL, e_tuple_stL, e_list_stL, e_app_stL, e_tuple_dMode, e_list_dMode, e_appT_stL, e_resS, e_lenS, e_idx0, e_idx1, e_setS, e_all, e_srtS, ok_step, ok_mode, ok_stL, ok_plan, ok_iL, ok_iT, ok_sL, ok_sT, cm_step, cm_mode, cm_stL, cm_plan, cm_iL, cm_iT, cm_sL, cm_sT, eq_sL, eq_iL, eqD_int, eqD_str, e_isi_int_S, e_isi_bool_S, e_isi_str_S, e_isi_tuple_S, e_isi_list_S, it1_eq, it2_eq, itN_int, frzN_int, itN_str, frzN_str, itN_tup, frzN_tup, itN_lst, frzN_lst, itN_dPlan, frzN_dPlan, itN_dMode, frzN_dMode, itN_stL, frzN_stL, itN_iL, frzN_iL, itN_iT, frzN_iT, itN_sL, frzN_sL, itN_sT, frzN_sT, itN_dStep, frzN_dStep, frz_eq, frzN_loc, res_loc, dBools_bl, dInts_int, E_look_plan_F0, plan_ok h]
end Bp

namespace Bp
open PySem L2
/-! ### rows and steps -/
/-- a row, handed in either way -/
inductive IsRow : D → List Int → Prop where
  | l (row : List Int) : IsRow (iL row) row
  | t (row : List Int) : IsRow (iT row) row
inductive IsDeeds : D → List Str → Prop where
  | l (ds : List Str) : IsDeeds (sL ds) ds
  | t (ds : List Str) : IsDeeds (sT ds) ds
def inRow (B : Nat) (row : List Int) : Prop := ∀ b ∈ row, 0 ≤ b ∧ b < B
theorem row_ok {d : D} {row : List Int} (hd : IsRow d row) (B : Nat) (hr : inRow B row) (hl : row.length ≤ 40) : F_is_row [.int (B : Nat), d] = .ok (.bl true) := by
  have h1 : ¬ (40 : Int) < (row.length : Nat) := by omega
  have x1 : ∀ x, evX E_is_row t_is_row_x1 [some (.int (B : Nat)), some d, x] [] = .ok ((row.map fun _ => true).map D.bl) [] := fun x => by
    unfold t_is_row_x1
    have go : compL [2] (.n 2) (fun r S => .ok (.bl true) S) (fun r S => evE E_is_row (.call 0 (.cons (.v 2) (.cons (.k (.int 0)) (.cons (.o2 .sub (.v 0) (.k (.int 1))) .nil)))) r S) [some (.int (B : Nat)), some d, x] (row.map D.int) [] [] = .ok ((row.map fun _ => true).map D.bl) [] := by
      rw [compL_map (fun _ => .bl true)]
      · simp
      · have := sizeLine_big
        rw [List.length_map]; omega
      · intro e he
        obtain ⟨b, hb, rfl⟩ := List.mem_map.mp he
        have := hr b hb
        have h2 : 0 ≤ b := this.1
        have h3 : b ≤ (B : Nat) - 1 := by omega
        refine ⟨_, rfl, ?_⟩
        simp only [res_non, res_bl, res_int, res_str, res_tup, res_lst, res_scr, res_dK, bind_ok, bind_ex, bind_no, opt_some, opt_none, v_add, v_addL, v_addT, v_addS, v_sub, v_mul, v_mulL, v_fdiv, v_mod, v_eq, v_ne, v_lt, v_le, v_gt, v_ge, v_idxL, v_idxT, v_idxS, v_inS, v_ninS, v_inL, v_ninL, v_isN_non, v_nisN_non, v_isN_bl, v_nisN_bl, v_isN_int, v_nisN_int, v_isN_str, v_nisN_str, v_isN_tup, v_nisN_tup, v_isN_lst, v_nisN_lst, v_isN_scr, v_nisN_scr, v_isN_dK, v_nisN_dK, v_isB, v_nisB, u_lenL, u_lenT, u_lenC, u_lenD, u_neg, u_all, u_any, u_sum, u_tupL, u_tupT, u_tupR, u_intB, u_isi_int_non, u_isi_int_bl, u_isi_int_int, u_isi_int_str, u_isi_int_tup, u_isi_int_lst, u_isi_int_scr, u_isi_int_dK, u_isi_bool_non, u_isi_bool_bl, u_isi_bool_int, u_isi_bool_str, u_isi_bool_tup, u_isi_bool_lst, u_isi_bool_scr, u_isi_bool_dK, u_isi_str_non, u_isi_str_bl, u_isi_str_int, u_isi_str_str, u_isi_str_tup, u_isi_str_lst, u_isi_str_scr, u_isi_str_dK, u_isi_tuple_non, u_isi_tuple_bl, u_isi_tuple_int, u_isi_tuple_str, u_isi_tuple_tup, u_isi_tuple_lst, u_isi_tuple_scr, u_isi_tuple_dK, u_isi_list_non, u_isi_list_bl, u_isi_list_int, u_isi_list_str, u_isi_list_tup, u_isi_list_lst, u_isi_list_scr, u_isi_list_dK, u_isis_lt_non, u_isis_lt_bl, u_isis_lt_int, u_isis_lt_str, u_isis_lt_tup, u_isis_lt_lst, u_isis_lt_scr, u_isis_lt_dK, w_listL, w_listT, w_listR, w_srtS, w_srt, y_seqL, y_seqT, y_rng, y_chars, s_n, s_t, s_nil, s_cons, c_F0, c_F1, c_F2, c_F3, c_F4, c_F5, c_F6, c_F7, c_F8, c_F9, c_F10, c_F11, c_G0, c_G1, c_G2, c_G3, c_G4, nilT, nil_v, nil_k, nil_g, nil_o1, nil_o2, nil_and, nil_or, nil_not, nil_ch, nil_call, kn_non, km_non, kn_bl, km_bl, kn_int, km_int, kn_str, km_str, kn_scr, km_scr, kn_tup, kn_lst, km_tup, km_lst, evS, evE, evA, evX, eqB, callP, partI, slotLoc, isLst, appL, Option.map_some, Option.map_none, Option.bind_some, List.getElem?_cons_zero, List.getElem?_cons_succ, List.map_cons, List.map_nil, List.length_cons, List.length_nil, List.set_cons_zero, List.set_cons_succ, List.cons_append, List.nil_append, List.replicate_succ, List.replicate_zero, Nat.zero_add, Nat.reduceAdd, Nat.reduceSub, Nat.reduceLT, Int.reduceLT, Int.reduceLE, Int.reduceNeg, eq_self, and_self, and_true, true_and, Nat.reduceLeDiff, if_true, Bool.false_eq_true, if_false, ite_true, ite_false, decide_true, decide_false, Bool.not_true, Bool.not_false, Bool.and_true, Bool.true_and, wipeR, List.all_cons, List.all_nil, at_n, at_0, at_1, at_2, at_l, e_res_dPlan, e_len_dPlan, e_idx_dPlan, e_seq_dPlan, e_isi_int_dPlan, e_isi_bool_dPlan, e_isi_str_dPlan, e_isi_tuple_dPlan, e_isi_list_dPlan, e_isis_dPlan, e_isN_dPlan, e_nisN_dPlan, e_res_dMode, e_len_dMode, e_idx_dMode, e_seq_dMode, e_isi_int_dMode, e_isi_bool_dMode, e_isi_str_dMode, e_isi_tuple_dMode, e_isi_list_dMode, e_isis_dMode, e_isN_dMode, e_nisN_dMode, e_res_stL, e_len_stL, e_idx_stL, e_seq_stL, e_isi_int_stL, e_isi_bool_stL, e_isi_str_stL, e_isi_tuple_stL, e_isi_list_stL, e_isis_stL, e_isN_stL, e_nisN_stL, e_res_iL, e_len_iL, e_idx_iL, e_seq_iL, e_isi_int_iL, e_isi_bool_iL, e_isi_str_iL, e_isi_tuple_iL, e_isi_list_iL, e_isis_iL, e_isN_iL, e_nisN_iL, e_res_iT, e_len_iT, e_idx_iT, e_seq_iT, e_isi_int_iT, e_isi_bool_iT, e_isi_str_iT, e_isi_tuple_iT, e_isi_list_iT, e_isis_iT, e_isN_iT, e_nisN_iT, e_res_sL, e_len_sL, e_idx_sL, e_seq_sL, e_isi_int_sL, e_isi_bool_sL, e_isi_str_sL, e_isi_tuple_sL, e_isi_list_sL, e_isis_sL, e_isN_sL, e_nisN_sL, e_res_sT, e_len_sT, e_idx_sT, e_seq_sT, e_isi_int_sT, e_isi_bool_sT, e_isi_str_sT, e_isi_tuple_sT, e_isi_list_sT, e_isis_sT, e_isN_sT, e_nisN_sT, e_tuple_iL, e_list_iL, e_app_iL, e_tuple_iT, e_list_iT, e_appT_iL, e_tuple_sL, e_list_sL, e_app_sL, e_tuple_sT, e_list_sT, e_appT_sL, e_tuple_stL, e_list_stL, e_app_stL, e_tuple_dMode, e_list_dMode, e_appT_stL, e_resS, e_lenS, e_idx0, e_idx1, e_setS, e_all, e_srtS, ok_step, ok_mode, ok_stL, ok_plan, ok_iL, ok_iT, ok_sL, ok_sT, cm_step, cm_mode, cm_stL, cm_plan, cm_iL, cm_iT, cm_sL, cm_sT, eq_sL, eq_iL, eqD_int, eqD_str, e_isi_int_S, e_isi_bool_S, e_isi_str_S, e_isi_tuple_S, e_isi_list_S, it1_eq, it2_eq, itN_int, frzN_int, itN_str, frzN_str, itN_tup, frzN_tup, itN_lst, frzN_lst, itN_dPlan, frzN_dPlan, itN_dMode, frzN_dMode, itN_stL, frzN_stL, itN_iL, frzN_iL, itN_iT, frzN_iT, itN_sL, frzN_sL, itN_sT, frzN_sT, itN_dStep, frzN_dStep, frz_eq, frzN_loc, res_loc, dBools_bl, dInts_int, E_is_row_F0, E_is_row_G0, whole_ok, h2, h3]
    cases hd <;> simp only [res_non, res_bl, res_int, res_str, res_tup, res_lst, res_scr, res_dK, bind_ok, bind_ex, bind_no, opt_some, opt_none, v_add, v_addL, v_addT, v_addS, v_sub, v_mul, v_mulL, v_fdiv, v_mod, v_eq, v_ne, v_lt, v_le, v_gt, v_ge, v_idxL, v_idxT, v_idxS, v_inS, v_ninS, v_inL, v_ninL, v_isN_non, v_nisN_non, v_isN_bl, v_nisN_bl, v_isN_int, v_nisN_int, v_isN_str, v_nisN_str, v_isN_tup, v_nisN_tup, v_isN_lst, v_nisN_lst, v_isN_scr, v_nisN_scr, v_isN_dK, v_nisN_dK, v_isB, v_nisB, u_lenL, u_lenT, u_lenC, u_lenD, u_neg, u_all, u_any, u_sum, u_tupL, u_tupT, u_tupR, u_intB, u_isi_int_non, u_isi_int_bl, u_isi_int_int, u_isi_int_str, u_isi_int_tup, u_isi_int_lst, u_isi_int_scr, u_isi_int_dK, u_isi_bool_non, u_isi_bool_bl, u_isi_bool_int, u_isi_bool_str, u_isi_bool_tup, u_isi_bool_lst, u_isi_bool_scr, u_isi_bool_dK, u_isi_str_non, u_isi_str_bl, u_isi_str_int, u_isi_str_str, u_isi_str_tup, u_isi_str_lst, u_isi_str_scr, u_isi_str_dK, u_isi_tuple_non, u_isi_tuple_bl, u_isi_tuple_int, u_isi_tuple_str, u_isi_tuple_tup, u_isi_tuple_lst, u_isi_tuple_scr, u_isi_tuple_dK, u_isi_list_non, u_isi_list_bl, u_isi_list_int, u_isi_list_str, u_isi_list_tup, u_isi_list_lst, u_isi_list_scr, u_isi_list_dK, u_isis_lt_non, u_isis_lt_bl, u_isis_lt_int, u_isis_lt_str, u_isis_lt_tup, u_isis_lt_lst, u_isis_lt_scr, u_isis_lt_dK, w_listL, w_listT, w_listR, w_srtS, w_srt, y_seqL, y_seqT, y_rng, y_chars, s_n, s_t, s_nil, s_cons, c_F0, c_F1, c_F2, c_F3, c_F4, c_F5, c_F6, c_F7, c_F8, c_F9, c_F10, c_F11, c_G0, c_G1, c_G2, c_G3, c_G4, nilT, nil_v, nil_k, nil_g, nil_o1, nil_o2, nil_and, nil_or, nil_not, nil_ch, nil_call, kn_non, km_non, kn_bl, km_bl, kn_int, km_int, kn_str, km_str, kn_scr, km_scr, kn_tup, kn_lst, km_tup, km_lst, evS, evE, evA, evX, eqB, callP, partI, slotLoc, isLst, appL, Option.map_some, Option.map_none, Option.bind_some, List.getElem?_cons_zero, List.getElem?_cons_succ, List.map_cons, List.map_nil, List.length_cons, List.length_nil, List.set_cons_zero, List.set_cons_succ, List.cons_append, List.nil_append, List.replicate_succ, List.replicate_zero, Nat.zero_add, Nat.reduceAdd, Nat.reduceSub, Nat.reduceLT, Int.reduceLT, Int.reduceLE, Int.reduceNeg, eq_self, and_self, and_true, true_and, Nat.reduceLeDiff, if_true, Bool.false_eq_true, if_false, ite_true, ite_false, decide_true, decide_false, Bool.not_true, Bool.not_false, Bool.and_true, Bool.true_and, wipeR, List.all_cons, List.all_nil, at_n, at_0, at_1, at_2, at_l, e_res_dPlan, e_len_dPlan, e_idx_dPlan, e_seq_dPlan, e_isi_int_dPlan, e_isi_bool_dPlan, e_isi_str_dPlan, e_isi_tuple_dPlan, e_isi_list_dPlan, e_isis_dPlan, e_isN_dPlan, e_nisN_dPlan, e_res_dMode, e_len_dMode, e_idx_dMode, e_seq_dMode, e_isi_int_dMode, e_isi_bool_dMode, e_isi_str_dMode, e_isi_tuple_dMode, e_isi_list_dMode, e_isis_dMode, e_isN_dMode, e_nisN_dMode, e_res_stL, e_len_stL, e_idx_stL, e_seq_stL, e_isi_int_stL, e_isi_bool_stL, e_isi_str_stL, e_isi_tuple_stL, e_isi_list_stL, e_isis_stL, e_isN_stL, e_nisN_stL, e_res_iL, e_len_iL, e_idx_iL, e_seq_iL, e_isi_int_iL, e_isi_bool_iL, e_isi_str_iL, e_isi_tuple_iL, e_isi_list_iL, e_isis_iL, e_isN_iL, e_nisN_iL, e_res_iT, e_len_iT, e_idx_iT, e_seq_iT, e_isi_int_iT, e_isi_bool_iT, e_isi_str_iT, e_isi_tuple_iT, e_isi_list_iT, e_isis_iT, e_isN_iT, e_nisN_iT, e_res_sL, e_len_sL, e_idx_sL, e_seq_sL, e_isi_int_sL, e_isi_bool_sL, e_isi_str_sL, e_isi_tuple_sL, e_isi_list_sL, e_isis_sL, e_isN_sL, e_nisN_sL, e_res_sT, e_len_sT, e_idx_sT, e_seq_sT, e_isi_int_sT, e_isi_bool_sT, e_isi_str_sT, e_isi_tuple_sT, e_isi_list_sT, e_isis_sT, e_isN_sT, e_nisN_sT, e_tuple_iL, e_list_iL, e_app_iL, e_tuple_iT, e_list_iT, e_appT_iL, e_tuple_sL, e_list_sL, e_app_sL, e_tuple_sT, e_list_sT, e_appT_sL, e_tuple_stL, e_list_stL, e_app_stL, e_tuple_dMode, e_list_dMode, e_appT_stL, e_resS, e_lenS, e_idx0, e_idx1, e_setS, e_all, e_srtS, ok_step, ok_mode, ok_stL, ok_plan, ok_iL, ok_iT, ok_sL, ok_sT, cm_step, cm_mode, cm_stL, cm_plan, cm_iL, cm_iT, cm_sL, cm_sT, eq_sL, eq_iL, eqD_int, eqD_str, e_isi_int_S, e_isi_bool_S, e_isi_str_S, e_isi_tuple_S, e_isi_list_S, it1_eq, it2_eq, itN_int, frzN_int, itN_str, frzN_str, itN_tup, frzN_tup, itN_lst, frzN_lst, itN_dPlan, frzN_dPlan, itN_dMode, frzN_dMode, itN_stL, frzN_stL, itN_iL, frzN_iL, itN_iT, frzN_iT, itN_sL, frzN_sL, itN_sT, frzN_sT, itN_dStep, frzN_dStep, frz_eq, frzN_loc, res_loc, dBools_bl, dInts_int] at go ⊢ <;> exact go
  unfold F_is_row runDef t_is_row
  cases hd <;> simp only [res_non, res_bl, res_int, res_str, res_tup, res_lst, res_scr, res_dK, bind_ok, bind_ex, bind_no, opt_some, opt_none, v_add, v_addL, v_addT, v_addS, v_sub, v_mul, v_mulL, v_fdiv, v_mod, v_eq, v_ne, v_lt, v_le, v_gt, v_ge, v_idxL, v_idxT, v_idxS, v_inS, v_ninS, v_inL, v_ninL, v_isN_non, v_nisN_non, v_isN_bl, v_nisN_bl, v_isN_int, v_nisN_int, v_isN_str, v_nisN_str, v_isN_tup, v_nisN_tup, v_isN_lst, v_nisN_lst, v_isN_scr, v_nisN_scr, v_isN_dK, v_nisN_dK, v_isB, v_nisB, u_lenL, u_lenT, u_lenC, u_lenD, u_neg, u_all, u_any, u_sum, u_tupL, u_tupT, u_tupR, u_intB, u_isi_int_non, u_isi_int_bl, u_isi_int_int, u_isi_int_str, u_isi_int_tup, u_isi_int_lst, u_isi_int_scr, u_isi_int_dK, u_isi_bool_non, u_isi_bool_bl, u_isi_bool_int, u_isi_bool_str, u_isi_bool_tup, u_isi_bool_lst, u_isi_bool_scr, u_isi_bool_dK, u_isi_str_non, u_isi_str_bl, u_isi_str_int, u_isi_str_str, u_isi_str_tup, u_isi_str_lst, u_isi_str_scr, u_isi_str_dK, u_isi_tuple_non, u_isi_tuple_bl, u_isi_tuple_int, u_isi_tuple_str, u_isi_tuple_tup, u_isi_tuple_lst, u_isi_tuple_scr, u_isi_tuple_dK, u_isi_list_non, u_isi_list_bl, u_isi_list_int, u_isi_list_str, u_isi_list_tup, u_isi_list_lst, u_isi_list_scr, u_isi_list_dK, u_isis_lt_non, u_isis_lt_bl, u_isis_lt_int, u_isis_lt_str, u_isis_lt_tup, u_isis_lt_lst, u_isis_lt_scr, u_isis_lt_dK, w_listL, w_listT, w_listR, w_srtS, w_srt, y_seqL, y_seqT, y_rng, y_chars, s_n, s_t, s_nil, s_cons, c_F0, c_F1, c_F2, c_F3, c_F4, c_F5, c_F6, c_F7, c_F8, c_F9, c_F10, c_F11, c_G0, c_G1, c_G2, c_G3, c_G4, nilT, nil_v, nil_k, nil_g, nil_o1, nil_o2, nil_and, nil_or, nil_not, nil_ch, nil_call, kn_non, km_non, kn_bl, km_bl, kn_int, km_int, kn_str, km_str, kn_scr, km_scr, kn_tup, kn_lst, km_tup, km_lst, evS, evE, evA, evX, eqB, callP, partI, slotLoc, isLst, appL, Option.map_some, Option.map_none, Option.bind_some, List.getElem?_cons_zero, List.getElem?_cons_succ, List.map_cons, List.map_nil, List.length_cons, List.length_nil, List.set_cons_zero, List.set_cons_succ, List.cons_append, List.nil_append, List.replicate_succ, List.replicate_zero, Nat.zero_add, Nat.reduceAdd, Nat.reduceSub, Nat.reduceLT, Int.reduceLT, Int.reduceLE, Int.reduceNeg, eq_self, and_self, and_true, true_and, Nat.reduceLeDiff, if_true, Bool.false_eq_true, if_false, ite_true, ite_false, decide_true, decide_false, Bool.not_true, Bool.not_false, Bool.and_true, Bool.true_and, wipeR, List.all_cons, List.all_nil, at_n, at_0, at_1, at_2, at_l, e_res_dPlan, e_len_dPlan, e_idx_dPlan, e_seq_dPlan, e_isi_int_dPlan, e_isi_bool_dPlan, e_isi_str_dPlan, e_isi_tuple_dPlan, e_isi_list_dPlan, e_isis_dPlan, e_isN_dPlan, e_nisN_dPlan, e_res_dMode, e_len_dMode, e_idx_dMode, e_seq_dMode, e_isi_int_dMode, e_isi_bool_dMode, e_isi_str_dMode, e_isi_tuple_dMode, e_isi_list_dMode, e_isis_dMode, e_isN_dMode, e_nisN_dMode, e_res_stL, e_len_stL, e_idx_stL, e_seq_stL, e_isi_int_stL, e_isi_bool_stL, e_isi_str_stL, e_isi_tuple_stL, e_isi_list_stL, e_isis_stL, e_isN_stL, e_nisN_stL, e_res_iL, e_len_iL, e_idx_iL, e_seq_iL, e_isi_int_iL, e_isi_bool_iL, e_isi_str_iL, e_isi_tuple_iL, e_isi_list_iL, e_isis_iL, e_isN_iL, e_nisN_iL, e_res_iT, e_len_iT, e_idx_iT, e_seq_iT, e_isi_int_iT, e_isi_bool_iT, e_isi_str_iT, e_isi_tuple_iT, e_isi_list_iT, e_isis_iT, e_isN_iT, e_nisN_iT, e_res_sL, e_len_sL, e_idx_sL, e_seq_sL, e_isi_int_sL, e_isi_bool_sL, e_isi_str_sL, e_isi_tuple_sL, e_isi_list_sL, e_isis_sL, e_isN_sL, e_nisN_sL, e_res_sT, e_len_sT, e_idx_sT, e_seq_sT, e_isi_int_sT, e_isi_bool_sT, e_isi_str_sT, e_isi_tuple_sT, e_isi_list_sT, e_isis_sT, e_isN_sT, e_nisN_sT, e_tuple_iL, e_list_iL, e_app_iL, e_tuple_iT, e_list_iT, e_appT_iL, e_tuple_sL, e_list_sL, e_app_sL, e_tuple_sT, e_list_sT, e_appT_sL, e_tuple_stL, e_list_stL, e_app_stL, e_tuple_dMode, e_list_dMode, e_appT_stL, e_resS, e_lenS, e_idx0, e_idx1, e_setS, e_all, e_srtS, ok_step, ok_mode, ok_stL, ok_plan, ok_iL, ok_iT, ok_sL, ok_sT, cm_step, cm_mode, cm_stL, cm_plan, cm_iL, cm_iT, cm_sL, cm_sT, eq_sL, eq_iL, eqD_int, eqD_str, e_isi_int_S, e_isi_bool_S, e_isi_str_S, e_isi_tuple_S, e_isi_list_S, it1_eq, it2_eq, itN_int, frzN_int, itN_str, frzN_str, itN_tup, frzN_tup, itN_lst, frzN_lst, itN_dPlan, frzN_dPlan, itN_dMode, frzN_dMode, itN_stL, frzN_stL, itN_iL, frzN_iL, itN_iT, frzN_iT, itN_sL, frzN_sL, itN_sT, frzN_sT, itN_dStep, frzN_dStep, frz_eq, frzN_loc, res_loc, dBools_bl, dInts_int, E_is_row_F0, E_is_row_G0, h1, x1, all_true]
def gets (p : Plan) (m b : Int) : Step := (p.getD m.toNat []).getD b.toNat (0, "")
def stepsOf (p : Plan) : Int → List Int → List Step
  | _, [] => []
  | m, b :: bs => gets p m b :: stepsOf p (gets p m b).1 bs
theorem IsPlan.at {p : Plan} {B : Nat} (h : IsPlan p B) {m b : Int} (hm : 0 ≤ m ∧ m < p.length) (hb : 0 ≤ b ∧ b < B) : atI p m = some (p.getD m.toNat []) ∧ atI (p.getD m.toNat []) b = some (gets p m b) ∧ 0 ≤ (gets p m b).1 ∧ (gets p m b).1 < p.length ∧ okDeed (gets p m b).2 = true := by
  have h1 : p.getD m.toNat [] ∈ p := by
    rw [List.getD_eq_getElem?_getD, List.getElem?_eq_getElem (by omega)]
    exact List.getElem_mem _
  have hl := h.len _ h1
  have h2 : gets p m b ∈ p.getD m.toNat [] := by
    unfold gets
    rw [List.getD_eq_getElem?_getD (l := p.getD m.toNat []), List.getElem?_eq_getElem (by omega)]
    exact List.getElem_mem _
  exact ⟨at_i [] hm.1 hm.2, at_i _ hb.1 (by rw [hl]; exact hb.2), (h.goal _ h1 _ h2).1, (h.goal _ h1 _ h2).2, h.deed _ h1 _ h2⟩
theorem stepsOf_len (p : Plan) : ∀ (row : List Int) (m : Int), (stepsOf p m row).length = row.length
  | [], _ => rfl
  | b :: bs, m => by simp [stepsOf, stepsOf_len p bs]
theorem steps_loop {p : Plan} {B : Nat} (h : IsPlan p B) {d : D} : ∀ (row : List Int) (m : Int) (acc : List Step) (x : Option D), inRow B row → 0 ≤ m ∧ m < p.length → acc.length + row.length ≤ 10000 →
    ∃ m' x', forL (.n 4) (fun r S => evS E_steps_of t_steps_of_b1 r S) (row.map D.int) [some (dPlan p), some (.int m), some d, some (.loc 0), x] [.lst (acc.map dStep)] = .nx [some (dPlan p), some (.int m'), some d, some (.loc 0), x'] [.lst ((acc ++ stepsOf p m row).map dStep)]
  | [], m, acc, x, _, _, _ => ⟨m, x, by simp [forL, stepsOf]⟩
  | b :: bs, m, acc, x, hr, hm, hl => by
    obtain ⟨e1, e2, e3, e4, _⟩ := h.at hm (hr b (by simp))
    obtain ⟨m', x', ih⟩ := steps_loop h (d := d) bs (gets p m b).1 (acc ++ [gets p m b]) (some (.int b)) (fun b hb => hr b (List.mem_cons_of_mem _ hb)) ⟨e3, e4⟩ (by simp only [List.length_append, List.length_cons, List.length_nil] at hl ⊢; omega)
    refine ⟨m', x', ?_⟩
    have hs : acc.length < sizeLine := by have := sizeLine_big; simp only [List.length_cons] at hl; omega
    have body : evS E_steps_of t_steps_of_b1 [some (dPlan p), some (.int m), some d, some (.loc 0), some (.int b)] [.lst (acc.map dStep)] = .nx [some (dPlan p), some (.int (gets p m b).1), some d, some (.loc 0), some (.int b)] [.lst ((acc ++ [gets p m b]).map dStep)] := by
      unfold t_steps_of_b1
      simp only [res_non, res_bl, res_int, res_str, res_tup, res_lst, res_scr, res_dK, bind_ok, bind_ex, bind_no, opt_some, opt_none, v_add, v_addL, v_addT, v_addS, v_sub, v_mul, v_mulL, v_fdiv, v_mod, v_eq, v_ne, v_lt, v_le, v_gt, v_ge, v_idxL, v_idxT, v_idxS, v_inS, v_ninS, v_inL, v_ninL, v_isN_non, v_nisN_non, v_isN_bl, v_nisN_bl, v_isN_int, v_nisN_int, v_isN_str, v_nisN_str, v_isN_tup, v_nisN_tup, v_isN_lst, v_nisN_lst, v_isN_scr, v_nisN_scr, v_isN_dK, v_nisN_dK, v_isB, v_nisB, u_lenL, u_lenT, u_lenC, u_lenD, u_neg, u_all, u_any, u_sum, u_tupL, u_tupT, u_tupR, u_intB, u_isi_int_non, u_isi_int_bl, u_isi_int_int, u_isi_int_str, u_isi_int_tup, u_isi_int_lst, u_isi_int_scr, u_isi_int_dK, u_isi_bool_non, u_isi_bool_bl, u_isi_bool_int, u_isi_bool_str, u_isi_bool_tup, u_isi_bool_lst, u_isi_bool_scr, u_isi_bool_dK, u_isi_str_non, u_isi_str_bl, u_isi_str_int, u_isi_str_str, u_isi_str_tup, u_isi_str_lst, u_isi_str_scr, u_isi_str_dK, u_isi_tuple_non, u_isi_tuple_bl, u_isi_tuple_int, u_isi_tuple_str, u_isi_tuple_tup, u_isi_tuple_lst, u_isi_tuple_scr, u_isi_tuple_dK, u_isi_list_non, u_isi_list_bl, u_isi_list_int, u_isi_list_str, u_isi_list_tup, u_isi_list_lst, u_isi_list_scr, u_isi_list_dK, u_isis_lt_non, u_isis_lt_bl, u_isis_lt_int, u_isis_lt_str, u_isis_lt_tup, u_isis_lt_lst, u_isis_lt_scr, u_isis_lt_dK, w_listL, w_listT, w_listR, w_srtS, w_srt, y_seqL, y_seqT, y_rng, y_chars, s_n, s_t, s_nil, s_cons, c_F0, c_F1, c_F2, c_F3, c_F4, c_F5, c_F6, c_F7, c_F8, c_F9, c_F10, c_F11, c_G0, c_G1, c_G2, c_G3, c_G4, nilT, nil_v, nil_k, nil_g, nil_o1, nil_o2, nil_and, nil_or, nil_not, nil_ch, nil_call, kn_non, km_non, kn_bl, km_bl, kn_int, km_int, kn_str, km_str, kn_scr, km_scr, kn_tup, kn_lst, km_tup, km_lst, evS, evE, evA, evX, eqB, callP, partI, slotLoc, isLst, appL, Option.map_some, Option.map_none, Option.bind_some, List.getElem?_cons_zero, List.getElem?_cons_succ, List.map_cons, List.map_nil, List.length_cons, List.length_nil, List.set_cons_zero, List.set_cons_succ, List.cons_append, List.nil_append, List.replicate_succ, List.replicate_zero, Nat.zero_add, Nat.reduceAdd, Nat.reduceSub, Nat.reduceLT, Int.reduceLT, Int.reduceLE, Int.reduceNeg, eq_self, and_self, and_true, true_and, Nat.reduceLeDiff, if_true, Bool.false_eq_true, if_false, ite_true, ite_false, decide_true, decide_false, Bool.not_true, Bool.not_false, Bool.and_true, Bool.true_and, wipeR, List.all_cons, List.all_nil, at_n, at_0, at_1, at_2, at_l, e_res_dPlan, e_len_dPlan, e_idx_dPlan, e_seq_dPlan, e_isi_int_dPlan, e_isi_bool_dPlan, e_isi_str_dPlan, e_isi_tuple_dPlan, e_isi_list_dPlan, e_isis_dPlan, e_isN_dPlan, e_nisN_dPlan, e_res_dMode, e_len_dMode, e_idx_dMode, e_seq_dMode, e_isi_int_dMode, e_isi_bool_dMode, e_isi_str_dMode, e_isi_tuple_dMode, e_isi_list_dMode, e_isis_dMode, e_isN_dMode, e_nisN_dMode, e_res_stL, e_len_stL, e_idx_stL, e_seq_stL, e_isi_int_stL, e_isi_bool_stL, e_isi_str_stL, e_isi_tuple_stL, e_isi_list_stL, e_isis_stL, e_isN_stL, e_nisN_stL, e_res_iL, e_len_iL, e_idx_iL, e_seq_iL, e_isi_int_iL, e_isi_bool_iL, e_isi_str_iL, e_isi_tuple_iL, e_isi_list_iL, e_isis_iL, e_isN_iL, e_nisN_iL, e_res_iT, e_len_iT, e_idx_iT, e_seq_iT, e_isi_int_iT, e_isi_bool_iT, e_isi_str_iT, e_isi_tuple_iT, e_isi_list_iT, e_isis_iT, e_isN_iT, e_nisN_iT, e_res_sL, e_len_sL, e_idx_sL, e_seq_sL, e_isi_int_sL, e_isi_bool_sL, e_isi_str_sL, e_isi_tuple_sL, e_isi_list_sL, e_isis_sL, e_isN_sL, e_nisN_sL, e_res_sT, e_len_sT, e_idx_sT, e_seq_sT, e_isi_int_sT, e_isi_bool_sT, e_isi_str_sT, e_isi_tuple_sT, e_isi_list_sT, e_isis_sT, e_isN_sT, e_nisN_sT, e_tuple_iL, e_list_iL, e_app_iL, e_tuple_iT, e_list_iT, e_appT_iL, e_tuple_sL, e_list_sL, e_app_sL, e_tuple_sT, e_list_sT, e_appT_sL, e_tuple_stL, e_list_stL, e_app_stL, e_tuple_dMode, e_list_dMode, e_appT_stL, e_resS, e_lenS, e_idx0, e_idx1, e_setS, e_all, e_srtS, ok_step, ok_mode, ok_stL, ok_plan, ok_iL, ok_iT, ok_sL, ok_sT, cm_step, cm_mode, cm_stL, cm_plan, cm_iL, cm_iT, cm_sL, cm_sT, eq_sL, eq_iL, eqD_int, eqD_str, e_isi_int_S, e_isi_bool_S, e_isi_str_S, e_isi_tuple_S, e_isi_list_S, it1_eq, it2_eq, itN_int, frzN_int, itN_str, frzN_str, itN_tup, frzN_tup, itN_lst, frzN_lst, itN_dPlan, frzN_dPlan, itN_dMode, frzN_dMode, itN_stL, frzN_stL, itN_iL, frzN_iL, itN_iT, frzN_iT, itN_sL, frzN_sL, itN_sT, frzN_sT, itN_dStep, frzN_dStep, frz_eq, frzN_loc, res_loc, dBools_bl, dInts_int, e1, e2, List.length_map, hs, List.map_append]
    rw [List.map_cons]
    unfold forL
    simp only [res_non, res_bl, res_int, res_str, res_tup, res_lst, res_scr, res_dK, bind_ok, bind_ex, bind_no, opt_some, opt_none, v_add, v_addL, v_addT, v_addS, v_sub, v_mul, v_mulL, v_fdiv, v_mod, v_eq, v_ne, v_lt, v_le, v_gt, v_ge, v_idxL, v_idxT, v_idxS, v_inS, v_ninS, v_inL, v_ninL, v_isN_non, v_nisN_non, v_isN_bl, v_nisN_bl, v_isN_int, v_nisN_int, v_isN_str, v_nisN_str, v_isN_tup, v_nisN_tup, v_isN_lst, v_nisN_lst, v_isN_scr, v_nisN_scr, v_isN_dK, v_nisN_dK, v_isB, v_nisB, u_lenL, u_lenT, u_lenC, u_lenD, u_neg, u_all, u_any, u_sum, u_tupL, u_tupT, u_tupR, u_intB, u_isi_int_non, u_isi_int_bl, u_isi_int_int, u_isi_int_str, u_isi_int_tup, u_isi_int_lst, u_isi_int_scr, u_isi_int_dK, u_isi_bool_non, u_isi_bool_bl, u_isi_bool_int, u_isi_bool_str, u_isi_bool_tup, u_isi_bool_lst, u_isi_bool_scr, u_isi_bool_dK, u_isi_str_non, u_isi_str_bl, u_isi_str_int, u_isi_str_str, u_isi_str_tup, u_isi_str_lst, u_isi_str_scr, u_isi_str_dK, u_isi_tuple_non, u_isi_tuple_bl, u_isi_tuple_int, u_isi_tuple_str, u_isi_tuple_tup, u_isi_tuple_lst, u_isi_tuple_scr, u_isi_tuple_dK, u_isi_list_non, u_isi_list_bl, u_isi_list_int, u_isi_list_str, u_isi_list_tup, u_isi_list_lst, u_isi_list_scr, u_isi_list_dK, u_isis_lt_non, u_isis_lt_bl, u_isis_lt_int, u_isis_lt_str, u_isis_lt_tup, u_isis_lt_lst, u_isis_lt_scr, u_isis_lt_dK, w_listL, w_listT, w_listR, w_srtS, w_srt, y_seqL, y_seqT, y_rng, y_chars, s_n, s_t, s_nil, s_cons, c_F0, c_F1, c_F2, c_F3, c_F4, c_F5, c_F6, c_F7, c_F8, c_F9, c_F10, c_F11, c_G0, c_G1, c_G2, c_G3, c_G4, nilT, nil_v, nil_k, nil_g, nil_o1, nil_o2, nil_and, nil_or, nil_not, nil_ch, nil_call, kn_non, km_non, kn_bl, km_bl, kn_int, km_int, kn_str, km_str, kn_scr, km_scr, kn_tup, kn_lst, km_tup, km_lst, evS, evE, evA, evX, eqB, callP, partI, slotLoc, isLst, appL, Option.map_some, Option.map_none, Option.bind_some, List.getElem?_cons_zero, List.getElem?_cons_succ, List.map_cons, List.map_nil, List.length_cons, List.length_nil, List.set_cons_zero, List.set_cons_succ, List.cons_append, List.nil_append, List.replicate_succ, List.replicate_zero, Nat.zero_add, Nat.reduceAdd, Nat.reduceSub, Nat.reduceLT, Int.reduceLT, Int.reduceLE, Int.reduceNeg, eq_self, and_self, and_true, true_and, Nat.reduceLeDiff, if_true, Bool.false_eq_true, if_false, ite_true, ite_false, decide_true, decide_false, Bool.not_true, Bool.not_false, Bool.and_true, Bool.true_and, wipeR, List.all_cons, List.all_nil, at_n, at_0, at_1, at_2, at_l, e_res_dPlan, e_len_dPlan, e_idx_dPlan, e_seq_dPlan, e_isi_int_dPlan, e_isi_bool_dPlan, e_isi_str_dPlan, e_isi_tuple_dPlan, e_isi_list_dPlan, e_isis_dPlan, e_isN_dPlan, e_nisN_dPlan, e_res_dMode, e_len_dMode, e_idx_dMode, e_seq_dMode, e_isi_int_dMode, e_isi_bool_dMode, e_isi_str_dMode, e_isi_tuple_dMode, e_isi_list_dMode, e_isis_dMode, e_isN_dMode, e_nisN_dMode, e_res_stL, e_len_stL, e_idx_stL, e_seq_stL, e_isi_int_stL, e_isi_bool_stL, e_isi_str_stL, e_isi_tuple_stL, e_isi_list_stL, e_isis_stL, e_isN_stL, e_nisN_stL, e_res_iL, e_len_iL, e_idx_iL, e_seq_iL, e_isi_int_iL, e_isi_bool_iL, e_isi_str_iL, e_isi_tuple_iL, e_isi_list_iL, e_isis_iL, e_isN_iL, e_nisN_iL, e_res_iT, e_len_iT, e_idx_iT, e_seq_iT, e_isi_int_iT, e_isi_bool_iT, e_isi_str_iT, e_isi_tuple_iT, e_isi_list_iT, e_isis_iT, e_isN_iT, e_nisN_iT, e_res_sL, e_len_sL, e_idx_sL, e_seq_sL, e_isi_int_sL, e_isi_bool_sL, e_isi_str_sL, e_isi_tuple_sL, e_isi_list_sL, e_isis_sL, e_isN_sL, e_nisN_sL, e_res_sT, e_len_sT, e_idx_sT, e_seq_sT, e_isi_int_sT, e_isi_bool_sT, e_isi_str_sT, e_isi_tuple_sT, e_isi_list_sT, e_isis_sT, e_isN_sT, e_nisN_sT, e_tuple_iL, e_list_iL, e_app_iL, e_tuple_iT, e_list_iT, e_appT_iL, e_tuple_sL, e_list_sL, e_app_sL, e_tuple_sT, e_list_sT, e_appT_sL, e_tuple_stL, e_list_stL, e_app_stL, e_tuple_dMode, e_list_dMode, e_appT_stL, e_resS, e_lenS, e_idx0, e_idx1, e_setS, e_all, e_srtS, ok_step, ok_mode, ok_stL, ok_plan, ok_iL, ok_iT, ok_sL, ok_sT, cm_step, cm_mode, cm_stL, cm_plan, cm_iL, cm_iT, cm_sL, cm_sT, eq_sL, eq_iL, eqD_int, eqD_str, e_isi_int_S, e_isi_bool_S, e_isi_str_S, e_isi_tuple_S, e_isi_list_S, it1_eq, it2_eq, itN_int, frzN_int, itN_str, frzN_str, itN_tup, frzN_tup, itN_lst, frzN_lst, itN_dPlan, frzN_dPlan, itN_dMode, frzN_dMode, itN_stL, frzN_stL, itN_iL, frzN_iL, itN_iT, frzN_iT, itN_sL, frzN_sL, itN_sT, frzN_sT, itN_dStep, frzN_dStep, frz_eq, frzN_loc, res_loc, dBools_bl, dInts_int, body, ih, stepsOf, List.append_assoc]
theorem steps_ok {p : Plan} {B : Nat} (h : IsPlan p B) {d : D} {row : List Int} (hd : IsRow d row) {m : Int} (hm : 0 ≤ m ∧ m < p.length) (hr : inRow B row) (hl : row.length ≤ 5000) : F_steps_of [dPlan p, .int m, d] = .ok (stL (stepsOf p m row)) := by
  obtain ⟨m', x', e⟩ := steps_loop h (d := d) row m [] none hr hm (by simpa using (by omega : row.length ≤ 10000))
  rw [List.nil_append] at e
  have e0 : (0 : Nat) ≤ sizeLine := by decide
  have ek : okN 60 (.lst ((stepsOf p m row).map dStep)) = true := ok_stL 57 _
  unfold F_steps_of runDef t_steps_of t_steps_of_f1
  rw [List.map_nil] at e
  cases hd <;> simp only [res_non, res_bl, res_int, res_str, res_tup, res_lst, res_scr, res_dK, bind_ok, bind_ex, bind_no, opt_some, opt_none, v_add, v_addL, v_addT, v_addS, v_sub, v_mul, v_mulL, v_fdiv, v_mod, v_eq, v_ne, v_lt, v_le, v_gt, v_ge, v_idxL, v_idxT, v_idxS, v_inS, v_ninS, v_inL, v_ninL, v_isN_non, v_nisN_non, v_isN_bl, v_nisN_bl, v_isN_int, v_nisN_int, v_isN_str, v_nisN_str, v_isN_tup, v_nisN_tup, v_isN_lst, v_nisN_lst, v_isN_scr, v_nisN_scr, v_isN_dK, v_nisN_dK, v_isB, v_nisB, u_lenL, u_lenT, u_lenC, u_lenD, u_neg, u_all, u_any, u_sum, u_tupL, u_tupT, u_tupR, u_intB, u_isi_int_non, u_isi_int_bl, u_isi_int_int, u_isi_int_str, u_isi_int_tup, u_isi_int_lst, u_isi_int_scr, u_isi_int_dK, u_isi_bool_non, u_isi_bool_bl, u_isi_bool_int, u_isi_bool_str, u_isi_bool_tup, u_isi_bool_lst, u_isi_bool_scr, u_isi_bool_dK, u_isi_str_non, u_isi_str_bl, u_isi_str_int, u_isi_str_str, u_isi_str_tup, u_isi_str_lst, u_isi_str_scr, u_isi_str_dK, u_isi_tuple_non, u_isi_tuple_bl, u_isi_tuple_int, u_isi_tuple_str, u_isi_tuple_tup, u_isi_tuple_lst, u_isi_tuple_scr, u_isi_tuple_dK, u_isi_list_non, u_isi_list_bl, u_isi_list_int, u_isi_list_str, u_isi_list_tup, u_isi_list_lst, u_isi_list_scr, u_isi_list_dK, u_isis_lt_non, u_isis_lt_bl, u_isis_lt_int, u_isis_lt_str, u_isis_lt_tup, u_isis_lt_lst, u_isis_lt_scr, u_isis_lt_dK, w_listL, w_listT, w_listR, w_srtS, w_srt, y_seqL, y_seqT, y_rng, y_chars, s_n, s_t, s_nil, s_cons, c_F0, c_F1, c_F2, c_F3, c_F4, c_F5, c_F6, c_F7, c_F8, c_F9, c_F10, c_F11, c_G0, c_G1, c_G2, c_G3, c_G4, nilT, nil_v, nil_k, nil_g, nil_o1, nil_o2, nil_and, nil_or, nil_not, nil_ch, nil_call, kn_non, km_non, kn_bl, km_bl, kn_int, km_int, kn_str, km_str, kn_scr, km_scr, kn_tup, kn_lst, km_tup, km_lst, evS, evE, evA, evX, eqB, callP, partI, slotLoc, isLst, appL, Option.map_some, Option.map_none, Option.bind_some, List.getElem?_cons_zero, List.getElem?_cons_succ, List.map_cons, List.map_nil, List.length_cons, List.length_nil, List.set_cons_zero, List.set_cons_succ, List.cons_append, List.nil_append, List.replicate_succ, List.replicate_zero, Nat.zero_add, Nat.reduceAdd, Nat.reduceSub, Nat.reduceLT, Int.reduceLT, Int.reduceLE, Int.reduceNeg, eq_self, and_self, and_true, true_and, Nat.reduceLeDiff, if_true, Bool.false_eq_true, if_false, ite_true, ite_false, decide_true, decide_false, Bool.not_true, Bool.not_false, Bool.and_true, Bool.true_and, wipeR, List.all_cons, List.all_nil, at_n, at_0, at_1, at_2, at_l, e_res_dPlan, e_len_dPlan, e_idx_dPlan, e_seq_dPlan, e_isi_int_dPlan, e_isi_bool_dPlan, e_isi_str_dPlan, e_isi_tuple_dPlan, e_isi_list_dPlan, e_isis_dPlan, e_isN_dPlan, e_nisN_dPlan, e_res_dMode, e_len_dMode, e_idx_dMode, e_seq_dMode, e_isi_int_dMode, e_isi_bool_dMode, e_isi_str_dMode, e_isi_tuple_dMode, e_isi_list_dMode, e_isis_dMode, e_isN_dMode, e_nisN_dMode, e_res_stL, e_len_stL, e_idx_stL, e_seq_stL, e_isi_int_stL, e_isi_bool_stL, e_isi_str_stL, e_isi_tuple_stL, e_isi_list_stL, e_isis_stL, e_isN_stL, e_nisN_stL, e_res_iL, e_len_iL, e_idx_iL, e_seq_iL, e_isi_int_iL, e_isi_bool_iL, e_isi_str_iL, e_isi_tuple_iL, e_isi_list_iL, e_isis_iL, e_isN_iL, e_nisN_iL, e_res_iT, e_len_iT, e_idx_iT, e_seq_iT, e_isi_int_iT, e_isi_bool_iT, e_isi_str_iT, e_isi_tuple_iT, e_isi_list_iT, e_isis_iT, e_isN_iT, e_nisN_iT, e_res_sL, e_len_sL, e_idx_sL, e_seq_sL, e_isi_int_sL, e_isi_bool_sL, e_isi_str_sL, e_isi_tuple_sL, e_isi_list_sL, e_isis_sL, e_isN_sL, e_nisN_sL, e_res_sT, e_len_sT, e_idx_sT, e_seq_sT, e_isi_int_sT, e_isi_bool_sT, e_isi_str_sT, e_isi_tuple_sT, e_isi_list_sT, e_isis_sT, e_isN_sT, e_nisN_sT, e_tuple_iL, e_list_iL, e_app_iL, e_tuple_iT, e_list_iT, e_appT_iL, e_tuple_sL, e_list_sL, e_app_sL, e_tuple_sT, e_list_sT, e_appT_sL, e_tuple_stL, e_list_stL, e_app_stL, e_tuple_dMode, e_list_dMode, e_appT_stL, e_resS, e_lenS, e_idx0, e_idx1, e_setS, e_all, e_srtS, ok_step, ok_mode, ok_stL, ok_plan, ok_iL, ok_iT, ok_sL, ok_sT, cm_step, cm_mode, cm_stL, cm_plan, cm_iL, cm_iT, cm_sL, cm_sT, eq_sL, eq_iL, eqD_int, eqD_str, e_isi_int_S, e_isi_bool_S, e_isi_str_S, e_isi_tuple_S, e_isi_list_S, it1_eq, it2_eq, itN_int, frzN_int, itN_str, frzN_str, itN_tup, frzN_tup, itN_lst, frzN_lst, itN_dPlan, frzN_dPlan, itN_dMode, frzN_dMode, itN_stL, frzN_stL, itN_iL, frzN_iL, itN_iT, frzN_iT, itN_sL, frzN_sL, itN_sT, frzN_sT, itN_dStep, frzN_dStep, frz_eq, frzN_loc, res_loc, dBools_bl, dInts_int, e0, e, ek] <;> rfl
end Bp

namespace Bp
open PySem L2
/-! ### told_start, told_end -/
def upto (n : Nat) : List Int := (List.range n).map fun i : Nat => (i : Int)
theorem upto_len (n : Nat) : (upto n).length = n := by simp [upto]
theorem upto_succ (n : Nat) : upto (n + 1) = upto n ++ [(n : Int)] := map_range_succ _ n
theorem upto_D (n : Nat) : (upto n).map D.int = rangeD (n : Int) := by simp [upto, rangeD]
theorem upto_mem {n : Nat} {i : Int} : i ∈ upto n ↔ 0 ≤ i ∧ i < n := by
  simp only [upto, List.mem_map, List.mem_range]
  constructor
  · rintro ⟨k, h, rfl⟩; omega
  · intro h; exact ⟨i.toNat, by omega, by omega⟩
theorem deeds_x1 {d : D} {ds : List Str} (hd : IsDeeds d ds) (hk : ∀ x ∈ ds, okDeed x = true) (hl : ds.length ≤ 10000) (a b c : Option D) : evX E_look_deeds t_look_deeds_x1 [a, b, some d, c] [] = .ok ((ds.map fun _ => true).map D.bl) [] := by
  unfold t_look_deeds_x1
  have go : compL [3] (.n 3) (fun r S => .ok (.bl true) S) (fun r S => evE E_look_deeds (.call 2 (.cons (.v 3) .nil)) r S) [a, b, some d, c] (ds.map D.str) [] [] = .ok ((ds.map fun _ => true).map D.bl) [] := by
    rw [compL_map (fun _ => .bl true)]
    · simp
    · have := sizeLine_big
      rw [List.length_map]; omega
    · intro e he
      obtain ⟨x, hx, rfl⟩ := List.mem_map.mp he
      refine ⟨_, rfl, ?_⟩
      simp only [res_non, res_bl, res_int, res_str, res_tup, res_lst, res_scr, res_dK, bind_ok, bind_ex, bind_no, opt_some, opt_none, v_add, v_addL, v_addT, v_addS, v_sub, v_mul, v_mulL, v_fdiv, v_mod, v_eq, v_ne, v_lt, v_le, v_gt, v_ge, v_idxL, v_idxT, v_idxS, v_inS, v_ninS, v_inL, v_ninL, v_isN_non, v_nisN_non, v_isN_bl, v_nisN_bl, v_isN_int, v_nisN_int, v_isN_str, v_nisN_str, v_isN_tup, v_nisN_tup, v_isN_lst, v_nisN_lst, v_isN_scr, v_nisN_scr, v_isN_dK, v_nisN_dK, v_isB, v_nisB, u_lenL, u_lenT, u_lenC, u_lenD, u_neg, u_all, u_any, u_sum, u_tupL, u_tupT, u_tupR, u_intB, u_isi_int_non, u_isi_int_bl, u_isi_int_int, u_isi_int_str, u_isi_int_tup, u_isi_int_lst, u_isi_int_scr, u_isi_int_dK, u_isi_bool_non, u_isi_bool_bl, u_isi_bool_int, u_isi_bool_str, u_isi_bool_tup, u_isi_bool_lst, u_isi_bool_scr, u_isi_bool_dK, u_isi_str_non, u_isi_str_bl, u_isi_str_int, u_isi_str_str, u_isi_str_tup, u_isi_str_lst, u_isi_str_scr, u_isi_str_dK, u_isi_tuple_non, u_isi_tuple_bl, u_isi_tuple_int, u_isi_tuple_str, u_isi_tuple_tup, u_isi_tuple_lst, u_isi_tuple_scr, u_isi_tuple_dK, u_isi_list_non, u_isi_list_bl, u_isi_list_int, u_isi_list_str, u_isi_list_tup, u_isi_list_lst, u_isi_list_scr, u_isi_list_dK, u_isis_lt_non, u_isis_lt_bl, u_isis_lt_int, u_isis_lt_str, u_isis_lt_tup, u_isis_lt_lst, u_isis_lt_scr, u_isis_lt_dK, w_listL, w_listT, w_listR, w_srtS, w_srt, y_seqL, y_seqT, y_rng, y_chars, s_n, s_t, s_nil, s_cons, c_F0, c_F1, c_F2, c_F3, c_F4, c_F5, c_F6, c_F7, c_F8, c_F9, c_F10, c_F11, c_G0, c_G1, c_G2, c_G3, c_G4, nilT, nil_v, nil_k, nil_g, nil_o1, nil_o2, nil_and, nil_or, nil_not, nil_ch, nil_call, kn_non, km_non, kn_bl, km_bl, kn_int, km_int, kn_str, km_str, kn_scr, km_scr, kn_tup, kn_lst, km_tup, km_lst, evS, evE, evA, evX, eqB, callP, partI, slotLoc, isLst, appL, Option.map_some, Option.map_none, Option.bind_some, List.getElem?_cons_zero, List.getElem?_cons_succ, List.map_cons, List.map_nil, List.length_cons, List.length_nil, List.set_cons_zero, List.set_cons_succ, List.cons_append, List.nil_append, List.replicate_succ, List.replicate_zero, Nat.zero_add, Nat.reduceAdd, Nat.reduceSub, Nat.reduceLT, Int.reduceLT, Int.reduceLE, Int.reduceNeg, eq_self, and_self, and_true, true_and, Nat.reduceLeDiff, if_true, Bool.false_eq_true, if_false, ite_true, ite_false, decide_true, decide_false, Bool.not_true, Bool.not_false, Bool.and_true, Bool.true_and, wipeR, List.all_cons, List.all_nil, at_n, at_0, at_1, at_2, at_l, e_res_dPlan, e_len_dPlan, e_idx_dPlan, e_seq_dPlan, e_isi_int_dPlan, e_isi_bool_dPlan, e_isi_str_dPlan, e_isi_tuple_dPlan, e_isi_list_dPlan, e_isis_dPlan, e_isN_dPlan, e_nisN_dPlan, e_res_dMode, e_len_dMode, e_idx_dMode, e_seq_dMode, e_isi_int_dMode, e_isi_bool_dMode, e_isi_str_dMode, e_isi_tuple_dMode, e_isi_list_dMode, e_isis_dMode, e_isN_dMode, e_nisN_dMode, e_res_stL, e_len_stL, e_idx_stL, e_seq_stL, e_isi_int_stL, e_isi_bool_stL, e_isi_str_stL, e_isi_tuple_stL, e_isi_list_stL, e_isis_stL, e_isN_stL, e_nisN_stL, e_res_iL, e_len_iL, e_idx_iL, e_seq_iL, e_isi_int_iL, e_isi_bool_iL, e_isi_str_iL, e_isi_tuple_iL, e_isi_list_iL, e_isis_iL, e_isN_iL, e_nisN_iL, e_res_iT, e_len_iT, e_idx_iT, e_seq_iT, e_isi_int_iT, e_isi_bool_iT, e_isi_str_iT, e_isi_tuple_iT, e_isi_list_iT, e_isis_iT, e_isN_iT, e_nisN_iT, e_res_sL, e_len_sL, e_idx_sL, e_seq_sL, e_isi_int_sL, e_isi_bool_sL, e_isi_str_sL, e_isi_tuple_sL, e_isi_list_sL, e_isis_sL, e_isN_sL, e_nisN_sL, e_res_sT, e_len_sT, e_idx_sT, e_seq_sT, e_isi_int_sT, e_isi_bool_sT, e_isi_str_sT, e_isi_tuple_sT, e_isi_list_sT, e_isis_sT, e_isN_sT, e_nisN_sT, e_tuple_iL, e_list_iL, e_app_iL, e_tuple_iT, e_list_iT, e_appT_iL, e_tuple_sL, e_list_sL, e_app_sL, e_tuple_sT, e_list_sT, e_appT_sL, e_tuple_stL, e_list_stL, e_app_stL, e_tuple_dMode, e_list_dMode, e_appT_stL, e_resS, e_lenS, e_idx0, e_idx1, e_setS, e_all, e_srtS, ok_step, ok_mode, ok_stL, ok_plan, ok_iL, ok_iT, ok_sL, ok_sT, cm_step, cm_mode, cm_stL, cm_plan, cm_iL, cm_iT, cm_sL, cm_sT, eq_sL, eq_iL, eqD_int, eqD_str, e_isi_int_S, e_isi_bool_S, e_isi_str_S, e_isi_tuple_S, e_isi_list_S, it1_eq, it2_eq, itN_int, frzN_int, itN_str, frzN_str, itN_tup, frzN_tup, itN_lst, frzN_lst, itN_dPlan, frzN_dPlan, itN_dMode, frzN_dMode, itN_stL, frzN_stL, itN_iL, frzN_iL, itN_iT, frzN_iT, itN_sL, frzN_sL, itN_sT, frzN_sT, itN_dStep, frzN_dStep, frz_eq, frzN_loc, res_loc, dBools_bl, dInts_int, E_look_deeds_F0, E_look_deeds_F1, E_look_deeds_F2, okDeed_eq (hk x hx)]
  cases hd <;> simp only [res_non, res_bl, res_int, res_str, res_tup, res_lst, res_scr, res_dK, bind_ok, bind_ex, bind_no, opt_some, opt_none, v_add, v_addL, v_addT, v_addS, v_sub, v_mul, v_mulL, v_fdiv, v_mod, v_eq, v_ne, v_lt, v_le, v_gt, v_ge, v_idxL, v_idxT, v_idxS, v_inS, v_ninS, v_inL, v_ninL, v_isN_non, v_nisN_non, v_isN_bl, v_nisN_bl, v_isN_int, v_nisN_int, v_isN_str, v_nisN_str, v_isN_tup, v_nisN_tup, v_isN_lst, v_nisN_lst, v_isN_scr, v_nisN_scr, v_isN_dK, v_nisN_dK, v_isB, v_nisB, u_lenL, u_lenT, u_lenC, u_lenD, u_neg, u_all, u_any, u_sum, u_tupL, u_tupT, u_tupR, u_intB, u_isi_int_non, u_isi_int_bl, u_isi_int_int, u_isi_int_str, u_isi_int_tup, u_isi_int_lst, u_isi_int_scr, u_isi_int_dK, u_isi_bool_non, u_isi_bool_bl, u_isi_bool_int, u_isi_bool_str, u_isi_bool_tup, u_isi_bool_lst, u_isi_bool_scr, u_isi_bool_dK, u_isi_str_non, u_isi_str_bl, u_isi_str_int, u_isi_str_str, u_isi_str_tup, u_isi_str_lst, u_isi_str_scr, u_isi_str_dK, u_isi_tuple_non, u_isi_tuple_bl, u_isi_tuple_int, u_isi_tuple_str, u_isi_tuple_tup, u_isi_tuple_lst, u_isi_tuple_scr, u_isi_tuple_dK, u_isi_list_non, u_isi_list_bl, u_isi_list_int, u_isi_list_str, u_isi_list_tup, u_isi_list_lst, u_isi_list_scr, u_isi_list_dK, u_isis_lt_non, u_isis_lt_bl, u_isis_lt_int, u_isis_lt_str, u_isis_lt_tup, u_isis_lt_lst, u_isis_lt_scr, u_isis_lt_dK, w_listL, w_listT, w_listR, w_srtS, w_srt, y_seqL, y_seqT, y_rng, y_chars, s_n, s_t, s_nil, s_cons, c_F0, c_F1, c_F2, c_F3, c_F4, c_F5, c_F6, c_F7, c_F8, c_F9, c_F10, c_F11, c_G0, c_G1, c_G2, c_G3, c_G4, nilT, nil_v, nil_k, nil_g, nil_o1, nil_o2, nil_and, nil_or, nil_not, nil_ch, nil_call, kn_non, km_non, kn_bl, km_bl, kn_int, km_int, kn_str, km_str, kn_scr, km_scr, kn_tup, kn_lst, km_tup, km_lst, evS, evE, evA, evX, eqB, callP, partI, slotLoc, isLst, appL, Option.map_some, Option.map_none, Option.bind_some, List.getElem?_cons_zero, List.getElem?_cons_succ, List.map_cons, List.map_nil, List.length_cons, List.length_nil, List.set_cons_zero, List.set_cons_succ, List.cons_append, List.nil_append, List.replicate_succ, List.replicate_zero, Nat.zero_add, Nat.reduceAdd, Nat.reduceSub, Nat.reduceLT, Int.reduceLT, Int.reduceLE, Int.reduceNeg, eq_self, and_self, and_true, true_and, Nat.reduceLeDiff, if_true, Bool.false_eq_true, if_false, ite_true, ite_false, decide_true, decide_false, Bool.not_true, Bool.not_false, Bool.and_true, Bool.true_and, wipeR, List.all_cons, List.all_nil, at_n, at_0, at_1, at_2, at_l, e_res_dPlan, e_len_dPlan, e_idx_dPlan, e_seq_dPlan, e_isi_int_dPlan, e_isi_bool_dPlan, e_isi_str_dPlan, e_isi_tuple_dPlan, e_isi_list_dPlan, e_isis_dPlan, e_isN_dPlan, e_nisN_dPlan, e_res_dMode, e_len_dMode, e_idx_dMode, e_seq_dMode, e_isi_int_dMode, e_isi_bool_dMode, e_isi_str_dMode, e_isi_tuple_dMode, e_isi_list_dMode, e_isis_dMode, e_isN_dMode, e_nisN_dMode, e_res_stL, e_len_stL, e_idx_stL, e_seq_stL, e_isi_int_stL, e_isi_bool_stL, e_isi_str_stL, e_isi_tuple_stL, e_isi_list_stL, e_isis_stL, e_isN_stL, e_nisN_stL, e_res_iL, e_len_iL, e_idx_iL, e_seq_iL, e_isi_int_iL, e_isi_bool_iL, e_isi_str_iL, e_isi_tuple_iL, e_isi_list_iL, e_isis_iL, e_isN_iL, e_nisN_iL, e_res_iT, e_len_iT, e_idx_iT, e_seq_iT, e_isi_int_iT, e_isi_bool_iT, e_isi_str_iT, e_isi_tuple_iT, e_isi_list_iT, e_isis_iT, e_isN_iT, e_nisN_iT, e_res_sL, e_len_sL, e_idx_sL, e_seq_sL, e_isi_int_sL, e_isi_bool_sL, e_isi_str_sL, e_isi_tuple_sL, e_isi_list_sL, e_isis_sL, e_isN_sL, e_nisN_sL, e_res_sT, e_len_sT, e_idx_sT, e_seq_sT, e_isi_int_sT, e_isi_bool_sT, e_isi_str_sT, e_isi_tuple_sT, e_isi_list_sT, e_isis_sT, e_isN_sT, e_nisN_sT, e_tuple_iL, e_list_iL, e_app_iL, e_tuple_iT, e_list_iT, e_appT_iL, e_tuple_sL, e_list_sL, e_app_sL, e_tuple_sT, e_list_sT, e_appT_sL, e_tuple_stL, e_list_stL, e_app_stL, e_tuple_dMode, e_list_dMode, e_appT_stL, e_resS, e_lenS, e_idx0, e_idx1, e_setS, e_all, e_srtS, ok_step, ok_mode, ok_stL, ok_plan, ok_iL, ok_iT, ok_sL, ok_sT, cm_step, cm_mode, cm_stL, cm_plan, cm_iL, cm_iT, cm_sL, cm_sT, eq_sL, eq_iL, eqD_int, eqD_str, e_isi_int_S, e_isi_bool_S, e_isi_str_S, e_isi_tuple_S, e_isi_list_S, it1_eq, it2_eq, itN_int, frzN_int, itN_str, frzN_str, itN_tup, frzN_tup, itN_lst, frzN_lst, itN_dPlan, frzN_dPlan, itN_dMode, frzN_dMode, itN_stL, frzN_stL, itN_iL, frzN_iL, itN_iT, frzN_iT, itN_sL, frzN_sL, itN_sT, frzN_sT, itN_dStep, frzN_dStep, frz_eq, frzN_loc, res_loc, dBools_bl, dInts_int] at go ⊢ <;> exact go
theorem IsPlan.first {p : Plan} {B : Nat} (h : IsPlan p B) : ∃ m0, p[0]? = some m0 ∧ m0.length = B := by
  obtain ⟨m0, hm0⟩ : ∃ m0, p[0]? = some m0 := ⟨p[0]'(by have := h.one; omega), by simp⟩
  exact ⟨m0, hm0, h.len m0 (List.mem_of_getElem? hm0)⟩
theorem deeds_ok {p : Plan} {B : Nat} (h : IsPlan p B) {d e : D} {row : List Int} {ds : List Str} (hd : IsRow d row) (he : IsDeeds e ds) (hr : inRow B row) (hl : row.length ≤ 40) (hk : ∀ x ∈ ds, okDeed x = true) (hn : ds.length = row.length) : F_look_deeds [dPlan p, d, e] = .ok .non := by
  obtain ⟨m0, hm0, hl0⟩ := h.first
  have hw := row_ok hd B hr hl
  have x1 := deeds_x1 he hk (by omega) (some (dPlan p)) (some d) none
  unfold F_look_deeds runDef t_look_deeds
  cases hd <;> cases he <;> simp only [res_non, res_bl, res_int, res_str, res_tup, res_lst, res_scr, res_dK, bind_ok, bind_ex, bind_no, opt_some, opt_none, v_add, v_addL, v_addT, v_addS, v_sub, v_mul, v_mulL, v_fdiv, v_mod, v_eq, v_ne, v_lt, v_le, v_gt, v_ge, v_idxL, v_idxT, v_idxS, v_inS, v_ninS, v_inL, v_ninL, v_isN_non, v_nisN_non, v_isN_bl, v_nisN_bl, v_isN_int, v_nisN_int, v_isN_str, v_nisN_str, v_isN_tup, v_nisN_tup, v_isN_lst, v_nisN_lst, v_isN_scr, v_nisN_scr, v_isN_dK, v_nisN_dK, v_isB, v_nisB, u_lenL, u_lenT, u_lenC, u_lenD, u_neg, u_all, u_any, u_sum, u_tupL, u_tupT, u_tupR, u_intB, u_isi_int_non, u_isi_int_bl, u_isi_int_int, u_isi_int_str, u_isi_int_tup, u_isi_int_lst, u_isi_int_scr, u_isi_int_dK, u_isi_bool_non, u_isi_bool_bl, u_isi_bool_int, u_isi_bool_str, u_isi_bool_tup, u_isi_bool_lst, u_isi_bool_scr, u_isi_bool_dK, u_isi_str_non, u_isi_str_bl, u_isi_str_int, u_isi_str_str, u_isi_str_tup, u_isi_str_lst, u_isi_str_scr, u_isi_str_dK, u_isi_tuple_non, u_isi_tuple_bl, u_isi_tuple_int, u_isi_tuple_str, u_isi_tuple_tup, u_isi_tuple_lst, u_isi_tuple_scr, u_isi_tuple_dK, u_isi_list_non, u_isi_list_bl, u_isi_list_int, u_isi_list_str, u_isi_list_tup, u_isi_list_lst, u_isi_list_scr, u_isi_list_dK, u_isis_lt_non, u_isis_lt_bl, u_isis_lt_int, u_isis_lt_str, u_isis_lt_tup, u_isis_lt_lst, u_isis_lt_scr, u_isis_lt_dK, w_listL, w_listT, w_listR, w_srtS, w_srt, y_seqL, y_seqT, y_rng, y_chars, s_n, s_t, s_nil, s_cons, c_F0, c_F1, c_F2, c_F3, c_F4, c_F5, c_F6, c_F7, c_F8, c_F9, c_F10, c_F11, c_G0, c_G1, c_G2, c_G3, c_G4, nilT, nil_v, nil_k, nil_g, nil_o1, nil_o2, nil_and, nil_or, nil_not, nil_ch, nil_call, kn_non, km_non, kn_bl, km_bl, kn_int, km_int, kn_str, km_str, kn_scr, km_scr, kn_tup, kn_lst, km_tup, km_lst, evS, evE, evA, evX, eqB, callP, partI, slotLoc, isLst, appL, Option.map_some, Option.map_none, Option.bind_some, List.getElem?_cons_zero, List.getElem?_cons_succ, List.map_cons, List.map_nil, List.length_cons, List.length_nil, List.set_cons_zero, List.set_cons_succ, List.cons_append, List.nil_append, List.replicate_succ, List.replicate_zero, Nat.zero_add, Nat.reduceAdd, Nat.reduceSub, Nat.reduceLT, Int.reduceLT, Int.reduceLE, Int.reduceNeg, eq_self, and_self, and_true, true_and, Nat.reduceLeDiff, if_true, Bool.false_eq_true, if_false, ite_true, ite_false, decide_true, decide_false, Bool.not_true, Bool.not_false, Bool.and_true, Bool.true_and, wipeR, List.all_cons, List.all_nil, at_n, at_0, at_1, at_2, at_l, e_res_dPlan, e_len_dPlan, e_idx_dPlan, e_seq_dPlan, e_isi_int_dPlan, e_isi_bool_dPlan, e_isi_str_dPlan, e_isi_tuple_dPlan, e_isi_list_dPlan, e_isis_dPlan, e_isN_dPlan, e_nisN_dPlan, e_res_dMode, e_len_dMode, e_idx_dMode, e_seq_dMode, e_isi_int_dMode, e_isi_bool_dMode, e_isi_str_dMode, e_isi_tuple_dMode, e_isi_list_dMode, e_isis_dMode, e_isN_dMode, e_nisN_dMode, e_res_stL, e_len_stL, e_idx_stL, e_seq_stL, e_isi_int_stL, e_isi_bool_stL, e_isi_str_stL, e_isi_tuple_stL, e_isi_list_stL, e_isis_stL, e_isN_stL, e_nisN_stL, e_res_iL, e_len_iL, e_idx_iL, e_seq_iL, e_isi_int_iL, e_isi_bool_iL, e_isi_str_iL, e_isi_tuple_iL, e_isi_list_iL, e_isis_iL, e_isN_iL, e_nisN_iL, e_res_iT, e_len_iT, e_idx_iT, e_seq_iT, e_isi_int_iT, e_isi_bool_iT, e_isi_str_iT, e_isi_tuple_iT, e_isi_list_iT, e_isis_iT, e_isN_iT, e_nisN_iT, e_res_sL, e_len_sL, e_idx_sL, e_seq_sL, e_isi_int_sL, e_isi_bool_sL, e_isi_str_sL, e_isi_tuple_sL, e_isi_list_sL, e_isis_sL, e_isN_sL, e_nisN_sL, e_res_sT, e_len_sT, e_idx_sT, e_seq_sT, e_isi_int_sT, e_isi_bool_sT, e_isi_str_sT, e_isi_tuple_sT, e_isi_list_sT, e_isis_sT, e_isN_sT, e_nisN_sT, e_tuple_iL, e_list_iL, e_app_iL, e_tuple_iT, e_list_iT, e_appT_iL, e_tuple_sL, e_list_sL, e_app_sL, e_tuple_sT, e_list_sT, e_appT_sL, e_tuple_stL, e_list_stL, e_app_stL, e_tuple_dMode, e_list_dMode, e_appT_stL, e_resS, e_lenS, e_idx0, e_idx1, e_setS, e_all, e_srtS, ok_step, ok_mode, ok_stL, ok_plan, ok_iL, ok_iT, ok_sL, ok_sT, cm_step, cm_mode, cm_stL, cm_plan, cm_iL, cm_iT, cm_sL, cm_sT, eq_sL, eq_iL, eqD_int, eqD_str, e_isi_int_S, e_isi_bool_S, e_isi_str_S, e_isi_tuple_S, e_isi_list_S, it1_eq, it2_eq, itN_int, frzN_int, itN_str, frzN_str, itN_tup, frzN_tup, itN_lst, frzN_lst, itN_dPlan, frzN_dPlan, itN_dMode, frzN_dMode, itN_stL, frzN_stL, itN_iL, frzN_iL, itN_iT, frzN_iT, itN_sL, frzN_sL, itN_sT, frzN_sT, itN_dStep, frzN_dStep, frz_eq, frzN_loc, res_loc, dBools_bl, dInts_int, E_look_deeds_F0, E_look_deeds_F1, E_look_deeds_F2, look_ok h, hm0, hl0, hw, x1, hn, all_true]
def deedsOf (l : List Step) : List Str := l.map (·.2)
def startsFor (p : Plan) (row : List Int) (ds : List Str) : List Int := (upto p.length).filter fun m => decide (deedsOf (stepsOf p m row) = ds)
theorem starts_x1 {p : Plan} {B : Nat} (h : IsPlan p B) {d : D} {row : List Int} (hd : IsRow d row) (hr : inRow B row) (hl : row.length ≤ 5000) {m : Int} (hm : 0 ≤ m ∧ m < p.length) (a b c f : Option D) (S : Sto) :
    evX E_starts_for t_starts_for_x1 [some (dPlan p), some d, a, b, some (.int m), c, f] S = .ok ((deedsOf (stepsOf p m row)).map D.str) S := by
  unfold t_starts_for_x1
  have hw := steps_ok h hd hm hr hl
  have go : compL [5, 6] (.t (.cons (.n 5) (.cons (.n 6) .nil))) (fun r S => .ok (.bl true) S) (fun r S => evE E_starts_for (.v 6) r S) [some (dPlan p), some d, a, b, some (.int m), c, f] ((stepsOf p m row).map dStep) S [] = .ok ((deedsOf (stepsOf p m row)).map D.str) S := by
    rw [compL_map (fun d => match d with | .tup [_, y] => y | _ => .non)]
    · simp [deedsOf, dStep]
    · have := sizeLine_big
      rw [List.length_map, stepsOf_len]; omega
    · intro e he
      obtain ⟨s, hs, rfl⟩ := List.mem_map.mp he
      refine ⟨_, rfl, rfl⟩
  cases hd <;> simp only [res_non, res_bl, res_int, res_str, res_tup, res_lst, res_scr, res_dK, bind_ok, bind_ex, bind_no, opt_some, opt_none, v_add, v_addL, v_addT, v_addS, v_sub, v_mul, v_mulL, v_fdiv, v_mod, v_eq, v_ne, v_lt, v_le, v_gt, v_ge, v_idxL, v_idxT, v_idxS, v_inS, v_ninS, v_inL, v_ninL, v_isN_non, v_nisN_non, v_isN_bl, v_nisN_bl, v_isN_int, v_nisN_int, v_isN_str, v_nisN_str, v_isN_tup, v_nisN_tup, v_isN_lst, v_nisN_lst, v_isN_scr, v_nisN_scr, v_isN_dK, v_nisN_dK, v_isB, v_nisB, u_lenL, u_lenT, u_lenC, u_lenD, u_neg, u_all, u_any, u_sum, u_tupL, u_tupT, u_tupR, u_intB, u_isi_int_non, u_isi_int_bl, u_isi_int_int, u_isi_int_str, u_isi_int_tup, u_isi_int_lst, u_isi_int_scr, u_isi_int_dK, u_isi_bool_non, u_isi_bool_bl, u_isi_bool_int, u_isi_bool_str, u_isi_bool_tup, u_isi_bool_lst, u_isi_bool_scr, u_isi_bool_dK, u_isi_str_non, u_isi_str_bl, u_isi_str_int, u_isi_str_str, u_isi_str_tup, u_isi_str_lst, u_isi_str_scr, u_isi_str_dK, u_isi_tuple_non, u_isi_tuple_bl, u_isi_tuple_int, u_isi_tuple_str, u_isi_tuple_tup, u_isi_tuple_lst, u_isi_tuple_scr, u_isi_tuple_dK, u_isi_list_non, u_isi_list_bl, u_isi_list_int, u_isi_list_str, u_isi_list_tup, u_isi_list_lst, u_isi_list_scr, u_isi_list_dK, u_isis_lt_non, u_isis_lt_bl, u_isis_lt_int, u_isis_lt_str, u_isis_lt_tup, u_isis_lt_lst, u_isis_lt_scr, u_isis_lt_dK, w_listL, w_listT, w_listR, w_srtS, w_srt, y_seqL, y_seqT, y_rng, y_chars, s_n, s_t, s_nil, s_cons, c_F0, c_F1, c_F2, c_F3, c_F4, c_F5, c_F6, c_F7, c_F8, c_F9, c_F10, c_F11, c_G0, c_G1, c_G2, c_G3, c_G4, nilT, nil_v, nil_k, nil_g, nil_o1, nil_o2, nil_and, nil_or, nil_not, nil_ch, nil_call, kn_non, km_non, kn_bl, km_bl, kn_int, km_int, kn_str, km_str, kn_scr, km_scr, kn_tup, kn_lst, km_tup, km_lst, evS, evE, evA, evX, eqB, callP, partI, slotLoc, isLst, appL, Option.map_some, Option.map_none, Option.bind_some, List.getElem?_cons_zero, List.getElem?_cons_succ, List.map_cons, List.map_nil, List.length_cons, List.length_nil, List.set_cons_zero, List.set_cons_succ, List.cons_append, List.nil_append, List.replicate_succ, List.replicate_zero, Nat.zero_add, Nat.reduceAdd, Nat.reduceSub, Nat.reduceLT, Int.reduceLT, Int.reduceLE, Int.reduceNeg, eq_self, and_self, and_true, true_and, Nat.reduceLeDiff, if_true, Bool.false_eq_true, if_false, ite_true, ite_false, decide_true, decide_false, Bool.not_true, Bool.not_false, Bool.and_true, Bool.true_and, wipeR, List.all_cons, List.all_nil, at_n, at_0, at_1, at_2, at_l, e_res_dPlan, e_len_dPlan, e_idx_dPlan, e_seq_dPlan, e_isi_int_dPlan, e_isi_bool_dPlan, e_isi_str_dPlan, e_isi_tuple_dPlan, e_isi_list_dPlan, e_isis_dPlan, e_isN_dPlan, e_nisN_dPlan, e_res_dMode, e_len_dMode, e_idx_dMode, e_seq_dMode, e_isi_int_dMode, e_isi_bool_dMode, e_isi_str_dMode, e_isi_tuple_dMode, e_isi_list_dMode, e_isis_dMode, e_isN_dMode, e_nisN_dMode, e_res_stL, e_len_stL, e_idx_stL, e_seq_stL, e_isi_int_stL, e_isi_bool_stL, e_isi_str_stL, e_isi_tuple_stL, e_isi_list_stL, e_isis_stL, e_isN_stL, e_nisN_stL, e_res_iL, e_len_iL, e_idx_iL, e_seq_iL, e_isi_int_iL, e_isi_bool_iL, e_isi_str_iL, e_isi_tuple_iL, e_isi_list_iL, e_isis_iL, e_isN_iL, e_nisN_iL, e_res_iT, e_len_iT, e_idx_iT, e_seq_iT, e_isi_int_iT, e_isi_bool_iT, e_isi_str_iT, e_isi_tuple_iT, e_isi_list_iT, e_isis_iT, e_isN_iT, e_nisN_iT, e_res_sL, e_len_sL, e_idx_sL, e_seq_sL, e_isi_int_sL, e_isi_bool_sL, e_isi_str_sL, e_isi_tuple_sL, e_isi_list_sL, e_isis_sL, e_isN_sL, e_nisN_sL, e_res_sT, e_len_sT, e_idx_sT, e_seq_sT, e_isi_int_sT, e_isi_bool_sT, e_isi_str_sT, e_isi_tuple_sT, e_isi_list_sT, e_isis_sT, e_isN_sT, e_nisN_sT, e_tuple_iL, e_list_iL, e_app_iL, e_tuple_iT, e_list_iT, e_appT_iL, e_tuple_sL, e_list_sL, e_app_sL, e_tuple_sT, e_list_sT, e_appT_sL, e_tuple_stL, e_list_stL, e_app_stL, e_tuple_dMode, e_list_dMode, e_appT_stL, e_resS, e_lenS, e_idx0, e_idx1, e_setS, e_all, e_srtS, ok_step, ok_mode, ok_stL, ok_plan, ok_iL, ok_iT, ok_sL, ok_sT, cm_step, cm_mode, cm_stL, cm_plan, cm_iL, cm_iT, cm_sL, cm_sT, eq_sL, eq_iL, eqD_int, eqD_str, e_isi_int_S, e_isi_bool_S, e_isi_str_S, e_isi_tuple_S, e_isi_list_S, it1_eq, it2_eq, itN_int, frzN_int, itN_str, frzN_str, itN_tup, frzN_tup, itN_lst, frzN_lst, itN_dPlan, frzN_dPlan, itN_dMode, frzN_dMode, itN_stL, frzN_stL, itN_iL, frzN_iL, itN_iT, frzN_iT, itN_sL, frzN_sL, itN_sT, frzN_sT, itN_dStep, frzN_dStep, frz_eq, frzN_loc, res_loc, dBools_bl, dInts_int, E_starts_for_F0, hw] at go ⊢ <;> exact go
theorem starts_ok {p : Plan} {B : Nat} (h : IsPlan p B) {d e : D} {row : List Int} {ds : List Str} (hd : IsRow d row) (he : IsDeeds e ds) (hr : inRow B row) (hl : row.length ≤ 5000) : F_starts_for [dPlan p, d, e] = .ok (iL (startsFor p row ds)) := by
  have hb := sizeLine_big
  have h6 := h.six
  obtain ⟨r', S', ew, x, y, z, rfl, rfl⟩ := forL_inv (tg := .n 4) (b := fun r S => evS E_starts_for t_starts_for_b1 r S) (fun n r S => ∃ x y z, r = [some (dPlan p), some d, some e, some (.loc 0), x, y, z] ∧ S = [.lst (((upto n).filter fun m => decide (deedsOf (stepsOf p m row) = ds)).map D.int)]) (rangeD p.length) 0 [some (dPlan p), some d, some e, some (.loc 0), none, none, none] [.lst []] ⟨_, _, _, rfl, rfl⟩ (by
    rintro i d' r S hd' ⟨x, y, z, rfl, rfl⟩
    obtain ⟨hi, rfl⟩ := rangeD_get hd'
    rw [Int.toNat_natCast] at hi
    rw [Nat.zero_add]
    have hw := starts_x1 h hd hr hl (m := (i : Nat)) ⟨by omega, by omega⟩ (some e) (some (.loc 0)) y z
    have hs : ((upto i).filter fun m => decide (deedsOf (stepsOf p m row) = ds)).length < sizeLine := by
      have := List.length_filter_le (fun m => decide (deedsOf (stepsOf p m row) = ds)) (upto i)
      rw [upto_len] at this
      omega
    have e2 : ∀ l : List Str, eqD (.lst ((deedsOf (stepsOf p (i : Nat) row)).map D.str)) (.lst (l.map D.str)) = decide (deedsOf (stepsOf p (i : Nat) row) = l) := fun l => eq_sL _ _
    have c1 : ∀ l : List Str, (l.map D.str).all (cmpN 59) = true := fun l => all_map_true (fun _ => rfl) l
    refine ⟨_, [some (dPlan p), some d, some e, some (.loc 0), some (.int (i : Nat)), y, z], [.lst (((upto (i + 1)).filter fun m => decide (deedsOf (stepsOf p m row) = ds)).map D.int)], rfl, .inl ?_, _, _, _, rfl, rfl⟩
    unfold t_starts_for_b1
    by_cases hq : deedsOf (stepsOf p (i : Nat) row) = ds
    · replace hq : decide (deedsOf (stepsOf p (i : Nat) row) = ds) = true := by simpa using hq
      cases he <;> simp only [res_non, res_bl, res_int, res_str, res_tup, res_lst, res_scr, res_dK, bind_ok, bind_ex, bind_no, opt_some, opt_none, v_add, v_addL, v_addT, v_addS, v_sub, v_mul, v_mulL, v_fdiv, v_mod, v_eq, v_ne, v_lt, v_le, v_gt, v_ge, v_idxL, v_idxT, v_idxS, v_inS, v_ninS, v_inL, v_ninL, v_isN_non, v_nisN_non, v_isN_bl, v_nisN_bl, v_isN_int, v_nisN_int, v_isN_str, v_nisN_str, v_isN_tup, v_nisN_tup, v_isN_lst, v_nisN_lst, v_isN_scr, v_nisN_scr, v_isN_dK, v_nisN_dK, v_isB, v_nisB, u_lenL, u_lenT, u_lenC, u_lenD, u_neg, u_all, u_any, u_sum, u_tupL, u_tupT, u_tupR, u_intB, u_isi_int_non, u_isi_int_bl, u_isi_int_int, u_isi_int_str, u_isi_int_tup, u_isi_int_lst, u_isi_int_scr, u_isi_int_dK, u_isi_bool_non, u_isi_bool_bl, u_isi_bool_int, u_isi_bool_str, u_isi_bool_tup, u_isi_bool_lst, u_isi_bool_scr, u_isi_bool_dK, u_isi_str_non, u_isi_str_bl, u_isi_str_int, u_isi_str_str, u_isi_str_tup, u_isi_str_lst, u_isi_str_scr, u_isi_str_dK, u_isi_tuple_non, u_isi_tuple_bl, u_isi_tuple_int, u_isi_tuple_str, u_isi_tuple_tup, u_isi_tuple_lst, u_isi_tuple_scr, u_isi_tuple_dK, u_isi_list_non, u_isi_list_bl, u_isi_list_int, u_isi_list_str, u_isi_list_tup, u_isi_list_lst, u_isi_list_scr, u_isi_list_dK, u_isis_lt_non, u_isis_lt_bl, u_isis_lt_int, u_isis_lt_str, u_isis_lt_tup, u_isis_lt_lst, u_isis_lt_scr, u_isis_lt_dK, w_listL, w_listT, w_listR, w_srtS, w_srt, y_seqL, y_seqT, y_rng, y_chars, s_n, s_t, s_nil, s_cons, c_F0, c_F1, c_F2, c_F3, c_F4, c_F5, c_F6, c_F7, c_F8, c_F9, c_F10, c_F11, c_G0, c_G1, c_G2, c_G3, c_G4, nilT, nil_v, nil_k, nil_g, nil_o1, nil_o2, nil_and, nil_or, nil_not, nil_ch, nil_call, kn_non, km_non, kn_bl, km_bl, kn_int, km_int, kn_str, km_str, kn_scr, km_scr, kn_tup, kn_lst, km_tup, km_lst, evS, evE, evA, evX, eqB, callP, partI, slotLoc, isLst, appL, Option.map_some, Option.map_none, Option.bind_some, List.getElem?_cons_zero, List.getElem?_cons_succ, List.map_cons, List.map_nil, List.length_cons, List.length_nil, List.set_cons_zero, List.set_cons_succ, List.cons_append, List.nil_append, List.replicate_succ, List.replicate_zero, Nat.zero_add, Nat.reduceAdd, Nat.reduceSub, Nat.reduceLT, Int.reduceLT, Int.reduceLE, Int.reduceNeg, eq_self, and_self, and_true, true_and, Nat.reduceLeDiff, if_true, Bool.false_eq_true, if_false, ite_true, ite_false, decide_true, decide_false, Bool.not_true, Bool.not_false, Bool.and_true, Bool.true_and, wipeR, List.all_cons, List.all_nil, at_n, at_0, at_1, at_2, at_l, e_res_dPlan, e_len_dPlan, e_idx_dPlan, e_seq_dPlan, e_isi_int_dPlan, e_isi_bool_dPlan, e_isi_str_dPlan, e_isi_tuple_dPlan, e_isi_list_dPlan, e_isis_dPlan, e_isN_dPlan, e_nisN_dPlan, e_res_dMode, e_len_dMode, e_idx_dMode, e_seq_dMode, e_isi_int_dMode, e_isi_bool_dMode, e_isi_str_dMode, e_isi_tuple_dMode, e_isi_list_dMode, e_isis_dMode, e_isN_dMode, e_nisN_dMode, e_res_stL, e_len_stL, e_idx_stL, e_seq_stL, e_isi_int_stL, e_isi_bool_stL, e_isi_str_stL, e_isi_tuple_stL, e_isi_list_stL, e_isis_stL, e_isN_stL, e_nisN_stL, e_res_iL, e_len_iL, e_idx_iL, e_seq_iL, e_isi_int_iL, e_isi_bool_iL, e_isi_str_iL, e_isi_tuple_iL, e_isi_list_iL, e_isis_iL, e_isN_iL, e_nisN_iL, e_res_iT, e_len_iT, e_idx_iT, e_seq_iT, e_isi_int_iT, e_isi_bool_iT, e_isi_str_iT, e_isi_tuple_iT, e_isi_list_iT, e_isis_iT, e_isN_iT, e_nisN_iT, e_res_sL, e_len_sL, e_idx_sL, e_seq_sL, e_isi_int_sL, e_isi_bool_sL, e_isi_str_sL, e_isi_tuple_sL, e_isi_list_sL, e_isis_sL, e_isN_sL, e_nisN_sL, e_res_sT, e_len_sT, e_idx_sT, e_seq_sT, e_isi_int_sT, e_isi_bool_sT, e_isi_str_sT, e_isi_tuple_sT, e_isi_list_sT, e_isis_sT, e_isN_sT, e_nisN_sT, e_tuple_iL, e_list_iL, e_app_iL, e_tuple_iT, e_list_iT, e_appT_iL, e_tuple_sL, e_list_sL, e_app_sL, e_tuple_sT, e_list_sT, e_appT_sL, e_tuple_stL, e_list_stL, e_app_stL, e_tuple_dMode, e_list_dMode, e_appT_stL, e_resS, e_lenS, e_idx0, e_idx1, e_setS, e_all, e_srtS, ok_step, ok_mode, ok_stL, ok_plan, ok_iL, ok_iT, ok_sL, ok_sT, cm_step, cm_mode, cm_stL, cm_plan, cm_iL, cm_iT, cm_sL, cm_sT, eq_sL, eq_iL, eqD_int, eqD_str, e_isi_int_S, e_isi_bool_S, e_isi_str_S, e_isi_tuple_S, e_isi_list_S, it1_eq, it2_eq, itN_int, frzN_int, itN_str, frzN_str, itN_tup, frzN_tup, itN_lst, frzN_lst, itN_dPlan, frzN_dPlan, itN_dMode, frzN_dMode, itN_stL, frzN_stL, itN_iL, frzN_iL, itN_iT, frzN_iT, itN_sL, frzN_sL, itN_sT, frzN_sT, itN_dStep, frzN_dStep, frz_eq, frzN_loc, res_loc, dBools_bl, dInts_int, E_starts_for_F0, hw, e2, c1, hq, hs, List.length_map, upto_succ, List.filter_append, List.map_append, List.filter_cons, List.filter_nil]
    · replace hq : decide (deedsOf (stepsOf p (i : Nat) row) = ds) = false := by simpa using hq
      cases he <;> simp only [res_non, res_bl, res_int, res_str, res_tup, res_lst, res_scr, res_dK, bind_ok, bind_ex, bind_no, opt_some, opt_none, v_add, v_addL, v_addT, v_addS, v_sub, v_mul, v_mulL, v_fdiv, v_mod, v_eq, v_ne, v_lt, v_le, v_gt, v_ge, v_idxL, v_idxT, v_idxS, v_inS, v_ninS, v_inL, v_ninL, v_isN_non, v_nisN_non, v_isN_bl, v_nisN_bl, v_isN_int, v_nisN_int, v_isN_str, v_nisN_str, v_isN_tup, v_nisN_tup, v_isN_lst, v_nisN_lst, v_isN_scr, v_nisN_scr, v_isN_dK, v_nisN_dK, v_isB, v_nisB, u_lenL, u_lenT, u_lenC, u_lenD, u_neg, u_all, u_any, u_sum, u_tupL, u_tupT, u_tupR, u_intB, u_isi_int_non, u_isi_int_bl, u_isi_int_int, u_isi_int_str, u_isi_int_tup, u_isi_int_lst, u_isi_int_scr, u_isi_int_dK, u_isi_bool_non, u_isi_bool_bl, u_isi_bool_int, u_isi_bool_str, u_isi_bool_tup, u_isi_bool_lst, u_isi_bool_scr, u_isi_bool_dK, u_isi_str_non, u_isi_str_bl, u_isi_str_int, u_isi_str_str, u_isi_str_tup, u_isi_str_lst, u_isi_str_scr, u_isi_str_dK, u_isi_tuple_non, u_isi_tuple_bl, u_isi_tuple_int, u_isi_tuple_str, u_isi_tuple_tup, u_isi_tuple_lst, u_isi_tuple_scr, u_isi_tuple_dK, u_isi_list_non, u_isi_list_bl, u_isi_list_int, u_isi_list_str, u_isi_list_tup, u_isi_list_lst, u_isi_list_scr, u_isi_list_dK, u_isis_lt_non, u_isis_lt_bl, u_isis_lt_int, u_isis_lt_str, u_isis_lt_tup, u_isis_lt_lst, u_isis_lt_scr, u_isis_lt_dK, w_listL, w_listT, w_listR, w_srtS, w_srt, y_seqL, y_seqT, y_rng, y_chars, s_n, s_t, s_nil, s_cons, c_F0, c_F1, c_F2, c_F3, c_F4, c_F5, c_F6, c_F7, c_F8, c_F9, c_F10, c_F11, c_G0, c_G1, c_G2, c_G3, c_G4, nilT, nil_v, nil_k, nil_g, nil_o1, nil_o2, nil_and, nil_or, nil_not, nil_ch, nil_call, kn_non, km_non, kn_bl, km_bl, kn_int, km_int, kn_str, km_str, kn_scr, km_scr, kn_tup, kn_lst, km_tup, km_lst, evS, evE, evA, evX, eqB, callP, partI, slotLoc, isLst, appL, Option.map_some, Option.map_none, Option.bind_some, List.getElem?_cons_zero, List.getElem?_cons_succ, List.map_cons, List.map_nil, List.length_cons, List.length_nil, List.set_cons_zero, List.set_cons_succ, List.cons_append, List.nil_append, List.replicate_succ, List.replicate_zero, Nat.zero_add, Nat.reduceAdd, Nat.reduceSub, Nat.reduceLT, Int.reduceLT, Int.reduceLE, Int.reduceNeg, eq_self, and_self, and_true, true_and, Nat.reduceLeDiff, if_true, Bool.false_eq_true, if_false, ite_true, ite_false, decide_true, decide_false, Bool.not_true, Bool.not_false, Bool.and_true, Bool.true_and, wipeR, List.all_cons, List.all_nil, at_n, at_0, at_1, at_2, at_l, e_res_dPlan, e_len_dPlan, e_idx_dPlan, e_seq_dPlan, e_isi_int_dPlan, e_isi_bool_dPlan, e_isi_str_dPlan, e_isi_tuple_dPlan, e_isi_list_dPlan, e_isis_dPlan, e_isN_dPlan, e_nisN_dPlan, e_res_dMode, e_len_dMode, e_idx_dMode, e_seq_dMode, e_isi_int_dMode, e_isi_bool_dMode, e_isi_str_dMode, e_isi_tuple_dMode, e_isi_list_dMode, e_isis_dMode, e_isN_dMode, e_nisN_dMode, e_res_stL, e_len_stL, e_idx_stL, e_seq_stL, e_isi_int_stL, e_isi_bool_stL, e_isi_str_stL, e_isi_tuple_stL, e_isi_list_stL, e_isis_stL, e_isN_stL, e_nisN_stL, e_res_iL, e_len_iL, e_idx_iL, e_seq_iL, e_isi_int_iL, e_isi_bool_iL, e_isi_str_iL, e_isi_tuple_iL, e_isi_list_iL, e_isis_iL, e_isN_iL, e_nisN_iL, e_res_iT, e_len_iT, e_idx_iT, e_seq_iT, e_isi_int_iT, e_isi_bool_iT, e_isi_str_iT, e_isi_tuple_iT, e_isi_list_iT, e_isis_iT, e_isN_iT, e_nisN_iT, e_res_sL, e_len_sL, e_idx_sL, e_seq_sL, e_isi_int_sL, e_isi_bool_sL, e_isi_str_sL, e_isi_tuple_sL, e_isi_list_sL, e_isis_sL, e_isN_sL, e_nisN_sL, e_res_sT, e_len_sT, e_idx_sT, e_seq_sT, e_isi_int_sT, e_isi_bool_sT, e_isi_str_sT, e_isi_tuple_sT, e_isi_list_sT, e_isis_sT, e_isN_sT, e_nisN_sT, e_tuple_iL, e_list_iL, e_app_iL, e_tuple_iT, e_list_iT, e_appT_iL, e_tuple_sL, e_list_sL, e_app_sL, e_tuple_sT, e_list_sT, e_appT_sL, e_tuple_stL, e_list_stL, e_app_stL, e_tuple_dMode, e_list_dMode, e_appT_stL, e_resS, e_lenS, e_idx0, e_idx1, e_setS, e_all, e_srtS, ok_step, ok_mode, ok_stL, ok_plan, ok_iL, ok_iT, ok_sL, ok_sT, cm_step, cm_mode, cm_stL, cm_plan, cm_iL, cm_iT, cm_sL, cm_sT, eq_sL, eq_iL, eqD_int, eqD_str, e_isi_int_S, e_isi_bool_S, e_isi_str_S, e_isi_tuple_S, e_isi_list_S, it1_eq, it2_eq, itN_int, frzN_int, itN_str, frzN_str, itN_tup, frzN_tup, itN_lst, frzN_lst, itN_dPlan, frzN_dPlan, itN_dMode, frzN_dMode, itN_stL, frzN_stL, itN_iL, frzN_iL, itN_iT, frzN_iT, itN_sL, frzN_sL, itN_sT, frzN_sT, itN_dStep, frzN_dStep, frz_eq, frzN_loc, res_loc, dBools_bl, dInts_int, E_starts_for_F0, hw, e2, c1, hq, hs, List.length_map, upto_succ, List.filter_append, List.map_append, List.filter_cons, List.filter_nil, List.append_nil, Bool.false_eq_true, if_false])
  have e0 : (0 : Nat) ≤ sizeLine := by decide
  have h1 : smallI ((p.length : Nat) : Int) = true := smallI_of (by omega)
  rw [rangeD_len, Int.toNat_natCast, Nat.zero_add] at ew
  unfold F_starts_for runDef
  have ek : ∀ l : List Int, (l.map D.int).all (okN 59) = true := fun l => all_map_true (fun _ => rfl) l
  unfold startsFor iL
  cases hd <;> cases he <;> simp only [t_starts_for, t_starts_for_f1, res_non, res_bl, res_int, res_str, res_tup, res_lst, res_scr, res_dK, bind_ok, bind_ex, bind_no, opt_some, opt_none, v_add, v_addL, v_addT, v_addS, v_sub, v_mul, v_mulL, v_fdiv, v_mod, v_eq, v_ne, v_lt, v_le, v_gt, v_ge, v_idxL, v_idxT, v_idxS, v_inS, v_ninS, v_inL, v_ninL, v_isN_non, v_nisN_non, v_isN_bl, v_nisN_bl, v_isN_int, v_nisN_int, v_isN_str, v_nisN_str, v_isN_tup, v_nisN_tup, v_isN_lst, v_nisN_lst, v_isN_scr, v_nisN_scr, v_isN_dK, v_nisN_dK, v_isB, v_nisB, u_lenL, u_lenT, u_lenC, u_lenD, u_neg, u_all, u_any, u_sum, u_tupL, u_tupT, u_tupR, u_intB, u_isi_int_non, u_isi_int_bl, u_isi_int_int, u_isi_int_str, u_isi_int_tup, u_isi_int_lst, u_isi_int_scr, u_isi_int_dK, u_isi_bool_non, u_isi_bool_bl, u_isi_bool_int, u_isi_bool_str, u_isi_bool_tup, u_isi_bool_lst, u_isi_bool_scr, u_isi_bool_dK, u_isi_str_non, u_isi_str_bl, u_isi_str_int, u_isi_str_str, u_isi_str_tup, u_isi_str_lst, u_isi_str_scr, u_isi_str_dK, u_isi_tuple_non, u_isi_tuple_bl, u_isi_tuple_int, u_isi_tuple_str, u_isi_tuple_tup, u_isi_tuple_lst, u_isi_tuple_scr, u_isi_tuple_dK, u_isi_list_non, u_isi_list_bl, u_isi_list_int, u_isi_list_str, u_isi_list_tup, u_isi_list_lst, u_isi_list_scr, u_isi_list_dK, u_isis_lt_non, u_isis_lt_bl, u_isis_lt_int, u_isis_lt_str, u_isis_lt_tup, u_isis_lt_lst, u_isis_lt_scr, u_isis_lt_dK, w_listL, w_listT, w_listR, w_srtS, w_srt, y_seqL, y_seqT, y_rng, y_chars, s_n, s_t, s_nil, s_cons, c_F0, c_F1, c_F2, c_F3, c_F4, c_F5, c_F6, c_F7, c_F8, c_F9, c_F10, c_F11, c_G0, c_G1, c_G2, c_G3, c_G4, nilT, nil_v, nil_k, nil_g, nil_o1, nil_o2, nil_and, nil_or, nil_not, nil_ch, nil_call, kn_non, km_non, kn_bl, km_bl, kn_int, km_int, kn_str, km_str, kn_scr, km_scr, kn_tup, kn_lst, km_tup, km_lst, evS, evE, evA, evX, eqB, callP, partI, slotLoc, isLst, appL, Option.map_some, Option.map_none, Option.bind_some, List.getElem?_cons_zero, List.getElem?_cons_succ, List.map_cons, List.map_nil, List.length_cons, List.length_nil, List.set_cons_zero, List.set_cons_succ, List.cons_append, List.nil_append, List.replicate_succ, List.replicate_zero, Nat.zero_add, Nat.reduceAdd, Nat.reduceSub, Nat.reduceLT, Int.reduceLT, Int.reduceLE, Int.reduceNeg, eq_self, and_self, and_true, true_and, Nat.reduceLeDiff, if_true, Bool.false_eq_true, if_false, ite_true, ite_false, decide_true, decide_false, Bool.not_true, Bool.not_false, Bool.and_true, Bool.true_and, wipeR, List.all_cons, List.all_nil, at_n, at_0, at_1, at_2, at_l, e_res_dPlan, e_len_dPlan, e_idx_dPlan, e_seq_dPlan, e_isi_int_dPlan, e_isi_bool_dPlan, e_isi_str_dPlan, e_isi_tuple_dPlan, e_isi_list_dPlan, e_isis_dPlan, e_isN_dPlan, e_nisN_dPlan, e_res_dMode, e_len_dMode, e_idx_dMode, e_seq_dMode, e_isi_int_dMode, e_isi_bool_dMode, e_isi_str_dMode, e_isi_tuple_dMode, e_isi_list_dMode, e_isis_dMode, e_isN_dMode, e_nisN_dMode, e_res_stL, e_len_stL, e_idx_stL, e_seq_stL, e_isi_int_stL, e_isi_bool_stL, e_isi_str_stL, e_isi_tuple_stL, e_isi_list_stL, e_isis_stL, e_isN_stL, e_nisN_stL, e_res_iL, e_len_iL, e_idx_iL, e_seq_iL, e_isi_int_iL, e_isi_bool_iL, e_isi_str_iL, e_isi_tuple_iL, e_isi_list_iL, e_isis_iL, e_isN_iL, e_nisN_iL, e_res_iT, e_len_iT, e_idx_iT, e_seq_iT, e_isi_int_iT, e_isi_bool_iT, e_isi_str_iT, e_isi_tuple_iT, e_isi_list_iT, e_isis_iT, e_isN_iT, e_nisN_iT, e_res_sL, e_len_sL, e_idx_sL, e_seq_sL, e_isi_int_sL, e_isi_bool_sL, e_isi_str_sL, e_isi_tuple_sL, e_isi_list_sL, e_isis_sL, e_isN_sL, e_nisN_sL, e_res_sT, e_len_sT, e_idx_sT, e_seq_sT, e_isi_int_sT, e_isi_bool_sT, e_isi_str_sT, e_isi_tuple_sT, e_isi_list_sT, e_isis_sT, e_isN_sT, e_nisN_sT, e_tuple_iL, e_list_iL, e_app_iL, e_tuple_iT, e_list_iT, e_appT_iL, e_tuple_sL, e_list_sL, e_app_sL, e_tuple_sT, e_list_sT, e_appT_sL, e_tuple_stL, e_list_stL, e_app_stL, e_tuple_dMode, e_list_dMode, e_appT_stL, e_resS, e_lenS, e_idx0, e_idx1, e_setS, e_all, e_srtS, ok_step, ok_mode, ok_stL, ok_plan, ok_iL, ok_iT, ok_sL, ok_sT, cm_step, cm_mode, cm_stL, cm_plan, cm_iL, cm_iT, cm_sL, cm_sT, eq_sL, eq_iL, eqD_int, eqD_str, e_isi_int_S, e_isi_bool_S, e_isi_str_S, e_isi_tuple_S, e_isi_list_S, it1_eq, it2_eq, itN_int, frzN_int, itN_str, frzN_str, itN_tup, frzN_tup, itN_lst, frzN_lst, itN_dPlan, frzN_dPlan, itN_dMode, frzN_dMode, itN_stL, frzN_stL, itN_iL, frzN_iL, itN_iT, frzN_iT, itN_sL, frzN_sL, itN_sT, frzN_sT, itN_dStep, frzN_dStep, frz_eq, frzN_loc, res_loc, dBools_bl, dInts_int, e0, h1, ew, ek]
end Bp

namespace Bp
open PySem L2
theorem tstart_ok {p : Plan} {B : Nat} (h : IsPlan p B) {d e : D} {row : List Int} {ds : List Str} (hd : IsRow d row) (he : IsDeeds e ds) (hr : inRow B row) (hl : row.length ≤ 40) (hk : ∀ x ∈ ds, okDeed x = true) (hn : ds.length = row.length) : F_told_start [dPlan p, d, e] = .ok (iL (startsFor p row ds)) := by
  have h1 := deeds_ok h hd he hr hl hk hn
  have h2 := starts_ok h hd he hr (by omega)
  unfold F_told_start runDef
  cases hd <;> cases he <;> simp only [t_told_start, res_non, res_bl, res_int, res_str, res_tup, res_lst, res_scr, res_dK, bind_ok, bind_ex, bind_no, opt_some, opt_none, v_add, v_addL, v_addT, v_addS, v_sub, v_mul, v_mulL, v_fdiv, v_mod, v_eq, v_ne, v_lt, v_le, v_gt, v_ge, v_idxL, v_idxT, v_idxS, v_inS, v_ninS, v_inL, v_ninL, v_isN_non, v_nisN_non, v_isN_bl, v_nisN_bl, v_isN_int, v_nisN_int, v_isN_str, v_nisN_str, v_isN_tup, v_nisN_tup, v_isN_lst, v_nisN_lst, v_isN_scr, v_nisN_scr, v_isN_dK, v_nisN_dK, v_isB, v_nisB, u_lenL, u_lenT, u_lenC, u_lenD, u_neg, u_all, u_any, u_sum, u_tupL, u_tupT, u_tupR, u_intB, u_isi_int_non, u_isi_int_bl, u_isi_int_int, u_isi_int_str, u_isi_int_tup, u_isi_int_lst, u_isi_int_scr, u_isi_int_dK, u_isi_bool_non, u_isi_bool_bl, u_isi_bool_int, u_isi_bool_str, u_isi_bool_tup, u_isi_bool_lst, u_isi_bool_scr, u_isi_bool_dK, u_isi_str_non, u_isi_str_bl, u_isi_str_int, u_isi_str_str, u_isi_str_tup, u_isi_str_lst, u_isi_str_scr, u_isi_str_dK, u_isi_tuple_non, u_isi_tuple_bl, u_isi_tuple_int, u_isi_tuple_str, u_isi_tuple_tup, u_isi_tuple_lst, u_isi_tuple_scr, u_isi_tuple_dK, u_isi_list_non, u_isi_list_bl, u_isi_list_int, u_isi_list_str, u_isi_list_tup, u_isi_list_lst, u_isi_list_scr, u_isi_list_dK, u_isis_lt_non, u_isis_lt_bl, u_isis_lt_int, u_isis_lt_str, u_isis_lt_tup, u_isis_lt_lst, u_isis_lt_scr, u_isis_lt_dK, w_listL, w_listT, w_listR, w_srtS, w_srt, y_seqL, y_seqT, y_rng, y_chars, s_n, s_t, s_nil, s_cons, c_F0, c_F1, c_F2, c_F3, c_F4, c_F5, c_F6, c_F7, c_F8, c_F9, c_F10, c_F11, c_G0, c_G1, c_G2, c_G3, c_G4, nilT, nil_v, nil_k, nil_g, nil_o1, nil_o2, nil_and, nil_or, nil_not, nil_ch, nil_call, kn_non, km_non, kn_bl, km_bl, kn_int, km_int, kn_str, km_str, kn_scr, km_scr, kn_tup, kn_lst, km_tup, km_lst, evS, evE, evA, evX, eqB, callP, partI, slotLoc, isLst, appL, Option.map_some, Option.map_none, Option.bind_some, List.getElem?_cons_zero, List.getElem?_cons_succ, List.map_cons, List.map_nil, List.length_cons, List.length_nil, List.set_cons_zero, List.set_cons_succ, List.cons_append, List.nil_append, List.replicate_succ, List.replicate_zero, Nat.zero_add, Nat.reduceAdd, Nat.reduceSub, Nat.reduceLT, Int.reduceLT, Int.reduceLE, Int.reduceNeg, eq_self, and_self, and_true, true_and, Nat.reduceLeDiff, if_true, Bool.false_eq_true, if_false, ite_true, ite_false, decide_true, decide_false, Bool.not_true, Bool.not_false, Bool.and_true, Bool.true_and, wipeR, List.all_cons, List.all_nil, at_n, at_0, at_1, at_2, at_l, e_res_dPlan, e_len_dPlan, e_idx_dPlan, e_seq_dPlan, e_isi_int_dPlan, e_isi_bool_dPlan, e_isi_str_dPlan, e_isi_tuple_dPlan, e_isi_list_dPlan, e_isis_dPlan, e_isN_dPlan, e_nisN_dPlan, e_res_dMode, e_len_dMode, e_idx_dMode, e_seq_dMode, e_isi_int_dMode, e_isi_bool_dMode, e_isi_str_dMode, e_isi_tuple_dMode, e_isi_list_dMode, e_isis_dMode, e_isN_dMode, e_nisN_dMode, e_res_stL, e_len_stL, e_idx_stL, e_seq_stL, e_isi_int_stL, e_isi_bool_stL, e_isi_str_stL, e_isi_tuple_stL, e_isi_list_stL, e_isis_stL, e_isN_stL, e_nisN_stL, e_res_iL, e_len_iL, e_idx_iL, e_seq_iL, e_isi_int_iL, e_isi_bool_iL, e_isi_str_iL, e_isi_tuple_iL, e_isi_list_iL, e_isis_iL, e_isN_iL, e_nisN_iL, e_res_iT, e_len_iT, e_idx_iT, e_seq_iT, e_isi_int_iT, e_isi_bool_iT, e_isi_str_iT, e_isi_tuple_iT, e_isi_list_iT, e_isis_iT, e_isN_iT, e_nisN_iT, e_res_sL, e_len_sL, e_idx_sL, e_seq_sL, e_isi_int_sL, e_isi_bool_sL, e_isi_str_sL, e_isi_tuple_sL, e_isi_list_sL, e_isis_sL, e_isN_sL, e_nisN_sL, e_res_sT, e_len_sT, e_idx_sT, e_seq_sT, e_isi_int_sT, e_isi_bool_sT, e_isi_str_sT, e_isi_tuple_sT, e_isi_list_sT, e_isis_sT, e_isN_sT, e_nisN_sT, e_tuple_iL, e_list_iL, e_app_iL, e_tuple_iT, e_list_iT, e_appT_iL, e_tuple_sL, e_list_sL, e_app_sL, e_tuple_sT, e_list_sT, e_appT_sL, e_tuple_stL, e_list_stL, e_app_stL, e_tuple_dMode, e_list_dMode, e_appT_stL, e_resS, e_lenS, e_idx0, e_idx1, e_setS, e_all, e_srtS, ok_step, ok_mode, ok_stL, ok_plan, ok_iL, ok_iT, ok_sL, ok_sT, cm_step, cm_mode, cm_stL, cm_plan, cm_iL, cm_iT, cm_sL, cm_sT, eq_sL, eq_iL, eqD_int, eqD_str, e_isi_int_S, e_isi_bool_S, e_isi_str_S, e_isi_tuple_S, e_isi_list_S, it1_eq, it2_eq, itN_int, frzN_int, itN_str, frzN_str, itN_tup, frzN_tup, itN_lst, frzN_lst, itN_dPlan, frzN_dPlan, itN_dMode, frzN_dMode, itN_stL, frzN_stL, itN_iL, frzN_iL, itN_iT, frzN_iT, itN_sL, frzN_sL, itN_sT, frzN_sT, itN_dStep, frzN_dStep, frz_eq, frzN_loc, res_loc, dBools_bl, dInts_int, E_told_start_F0, E_told_start_F1, h1, h2]
/-- where one is behind a row -/
def endOf (p : Plan) (m : Int) (row : List Int) : Int := match (stepsOf p m row).getLast? with
  | some s => s.1
  | none => m
theorem startsFor_mem {p : Plan} {row : List Int} {ds : List Str} {m : Int} (h : m ∈ startsFor p row ds) : 0 ≤ m ∧ m < p.length := upto_mem.mp (List.mem_filter.mp h).1
theorem startsFor_len (p : Plan) (row : List Int) (ds : List Str) : (startsFor p row ds).length ≤ p.length := by
  have := List.length_filter_le (fun m => decide (deedsOf (stepsOf p m row) = ds)) (upto p.length)
  rw [upto_len] at this
  exact this
theorem eq_stL_nil (l : List Step) : eqD (stL l) (.lst []) = decide (l = []) := by
  cases l <;> rfl
theorem tend_ok {p : Plan} {B : Nat} (h : IsPlan p B) {d e : D} {row : List Int} {ds : List Str} (hd : IsRow d row) (he : IsDeeds e ds) (hr : inRow B row) (hl : row.length ≤ 40) (hk : ∀ x ∈ ds, okDeed x = true) (hn : ds.length = row.length) : F_told_end [dPlan p, d, e] = .ok (iL (setI ((startsFor p row ds).map fun m => endOf p m row))) := by
  have h1 := deeds_ok h hd he hr hl hk hn
  have h2 := starts_ok h hd he hr (by omega)
  have hb := sizeLine_big
  have h6 := h.six
  have hsl := startsFor_len p row ds
  have e0 : (0 : Nat) ≤ sizeLine := by decide
  have ek : ∀ l : List Int, (l.map D.int).all (okN 59) = true := fun l => all_map_true (fun _ => rfl) l
  have hd0 := hd
  have he0 := he
  obtain ⟨r', S', ew, x, y, rfl, rfl⟩ := forL_inv (tg := .n 4) (b := fun r S => evS E_told_end t_told_end_b1 r S) (fun n r S => ∃ x y, r = [some (dPlan p), some d, some e, some (.loc 0), x, y] ∧ S = [.lst ((((startsFor p row ds).take n).map fun m => endOf p m row).map D.int)]) ((startsFor p row ds).map D.int) 0 [some (dPlan p), some d, some e, some (.loc 0), none, none] [.lst []] ⟨_, _, rfl, rfl⟩ (by
    rintro i d' r S hd' ⟨x, y, rfl, rfl⟩
    rw [List.getElem?_map] at hd'
    cases hm : (startsFor p row ds)[i]? with
    | none => rw [hm] at hd'; cases hd'
    | some m =>
      rw [hm] at hd'
      cases hd'
      rw [Nat.zero_add]
      have hm' := startsFor_mem (List.mem_of_getElem? hm)
      have hw := steps_ok h hd hm' hr (by omega)
      have ht : (startsFor p row ds).take (i + 1) = (startsFor p row ds).take i ++ [m] := by rw [List.take_add_one, hm]; rfl
      have hs : ((startsFor p row ds).take i).length < sizeLine := by rw [List.length_take]; omega
      refine ⟨_, [some (dPlan p), some d, some e, some (.loc 0), some (.int m), some (stL (stepsOf p m row))], [.lst ((((startsFor p row ds).take (i + 1)).map fun m => endOf p m row).map D.int)], rfl, .inl ?_, _, _, rfl, rfl⟩
      rw [ht]
      cases hsp : (stepsOf p m row).getLast? with
      | none =>
        have hz : (stepsOf p m row) = [] := List.getLast?_eq_none_iff.mp hsp
        have hz' : decide (stepsOf p m row = []) = true := by simpa using hz
        have he' : endOf p m row = m := by unfold endOf; rw [hsp]
        cases hd <;> simp only [t_told_end_b1, res_non, res_bl, res_int, res_str, res_tup, res_lst, res_scr, res_dK, bind_ok, bind_ex, bind_no, opt_some, opt_none, v_add, v_addL, v_addT, v_addS, v_sub, v_mul, v_mulL, v_fdiv, v_mod, v_eq, v_ne, v_lt, v_le, v_gt, v_ge, v_idxL, v_idxT, v_idxS, v_inS, v_ninS, v_inL, v_ninL, v_isN_non, v_nisN_non, v_isN_bl, v_nisN_bl, v_isN_int, v_nisN_int, v_isN_str, v_nisN_str, v_isN_tup, v_nisN_tup, v_isN_lst, v_nisN_lst, v_isN_scr, v_nisN_scr, v_isN_dK, v_nisN_dK, v_isB, v_nisB, u_lenL, u_lenT, u_lenC, u_lenD, u_neg, u_all, u_any, u_sum, u_tupL, u_tupT, u_tupR, u_intB, u_isi_int_non, u_isi_int_bl, u_isi_int_int, u_isi_int_str, u_isi_int_tup, u_isi_int_lst, u_isi_int_scr, u_isi_int_dK, u_isi_bool_non, u_isi_bool_bl, u_isi_bool_int, u_isi_bool_str, u_isi_bool_tup, u_isi_bool_lst, u_isi_bool_scr, u_isi_bool_dK, u_isi_str_non, u_isi_str_bl, u_isi_str_int, u_isi_str_str, u_isi_str_tup, u_isi_str_lst, u_isi_str_scr, u_isi_str_dK, u_isi_tuple_non, u_isi_tuple_bl, u_isi_tuple_int, u_isi_tuple_str, u_isi_tuple_tup, u_isi_tuple_lst, u_isi_tuple_scr, u_isi_tuple_dK, u_isi_list_non, u_isi_list_bl, u_isi_list_int, u_isi_list_str, u_isi_list_tup, u_isi_list_lst, u_isi_list_scr, u_isi_list_dK, u_isis_lt_non, u_isis_lt_bl, u_isis_lt_int, u_isis_lt_str, u_isis_lt_tup, u_isis_lt_lst, u_isis_lt_scr, u_isis_lt_dK, w_listL, w_listT, w_listR, w_srtS, w_srt, y_seqL, y_seqT, y_rng, y_chars, s_n, s_t, s_nil, s_cons, c_F0, c_F1, c_F2, c_F3, c_F4, c_F5, c_F6, c_F7, c_F8, c_F9, c_F10, c_F11, c_G0, c_G1, c_G2, c_G3, c_G4, nilT, nil_v, nil_k, nil_g, nil_o1, nil_o2, nil_and, nil_or, nil_not, nil_ch, nil_call, kn_non, km_non, kn_bl, km_bl, kn_int, km_int, kn_str, km_str, kn_scr, km_scr, kn_tup, kn_lst, km_tup, km_lst, evS, evE, evA, evX, eqB, callP, partI, slotLoc, isLst, appL, Option.map_some, Option.map_none, Option.bind_some, List.getElem?_cons_zero, List.getElem?_cons_succ, List.map_cons, List.map_nil, List.length_cons, List.length_nil, List.set_cons_zero, List.set_cons_succ, List.cons_append, List.nil_append, List.replicate_succ, List.replicate_zero, Nat.zero_add, Nat.reduceAdd, Nat.reduceSub, Nat.reduceLT, Int.reduceLT, Int.reduceLE, Int.reduceNeg, eq_self, and_self, and_true, true_and, Nat.reduceLeDiff, if_true, Bool.false_eq_true, if_false, ite_true, ite_false, decide_true, decide_false, Bool.not_true, Bool.not_false, Bool.and_true, Bool.true_and, wipeR, List.all_cons, List.all_nil, at_n, at_0, at_1, at_2, at_l, e_res_dPlan, e_len_dPlan, e_idx_dPlan, e_seq_dPlan, e_isi_int_dPlan, e_isi_bool_dPlan, e_isi_str_dPlan, e_isi_tuple_dPlan, e_isi_list_dPlan, e_isis_dPlan, e_isN_dPlan, e_nisN_dPlan, e_res_dMode, e_len_dMode, e_idx_dMode, e_seq_dMode, e_isi_int_dMode, e_isi_bool_dMode, e_isi_str_dMode, e_isi_tuple_dMode, e_isi_list_dMode, e_isis_dMode, e_isN_dMode, e_nisN_dMode, e_res_stL, e_len_stL, e_idx_stL, e_seq_stL, e_isi_int_stL, e_isi_bool_stL, e_isi_str_stL, e_isi_tuple_stL, e_isi_list_stL, e_isis_stL, e_isN_stL, e_nisN_stL, e_res_iL, e_len_iL, e_idx_iL, e_seq_iL, e_isi_int_iL, e_isi_bool_iL, e_isi_str_iL, e_isi_tuple_iL, e_isi_list_iL, e_isis_iL, e_isN_iL, e_nisN_iL, e_res_iT, e_len_iT, e_idx_iT, e_seq_iT, e_isi_int_iT, e_isi_bool_iT, e_isi_str_iT, e_isi_tuple_iT, e_isi_list_iT, e_isis_iT, e_isN_iT, e_nisN_iT, e_res_sL, e_len_sL, e_idx_sL, e_seq_sL, e_isi_int_sL, e_isi_bool_sL, e_isi_str_sL, e_isi_tuple_sL, e_isi_list_sL, e_isis_sL, e_isN_sL, e_nisN_sL, e_res_sT, e_len_sT, e_idx_sT, e_seq_sT, e_isi_int_sT, e_isi_bool_sT, e_isi_str_sT, e_isi_tuple_sT, e_isi_list_sT, e_isis_sT, e_isN_sT, e_nisN_sT, e_tuple_iL, e_list_iL, e_app_iL, e_tuple_iT, e_list_iT, e_appT_iL, e_tuple_sL, e_list_sL, e_app_sL, e_tuple_sT, e_list_sT, e_appT_sL, e_tuple_stL, e_list_stL, e_app_stL, e_tuple_dMode, e_list_dMode, e_appT_stL, e_resS, e_lenS, e_idx0, e_idx1, e_setS, e_all, e_srtS, ok_step, ok_mode, ok_stL, ok_plan, ok_iL, ok_iT, ok_sL, ok_sT, cm_step, cm_mode, cm_stL, cm_plan, cm_iL, cm_iT, cm_sL, cm_sT, eq_sL, eq_iL, eqD_int, eqD_str, e_isi_int_S, e_isi_bool_S, e_isi_str_S, e_isi_tuple_S, e_isi_list_S, it1_eq, it2_eq, itN_int, frzN_int, itN_str, frzN_str, itN_tup, frzN_tup, itN_lst, frzN_lst, itN_dPlan, frzN_dPlan, itN_dMode, frzN_dMode, itN_stL, frzN_stL, itN_iL, frzN_iL, itN_iT, frzN_iT, itN_sL, frzN_sL, itN_sT, frzN_sT, itN_dStep, frzN_dStep, frz_eq, frzN_loc, res_loc, dBools_bl, dInts_int, E_told_end_F0, E_told_end_F1, E_told_end_F2, hw, eq_stL_nil, hz', e0, List.length_map, hs, List.map_append, he']
      | some s =>
        have hz : (stepsOf p m row) ≠ [] := fun z => by rw [z] at hsp; cases hsp
        have hz' : decide (stepsOf p m row = []) = false := by simpa using hz
        have he' : endOf p m row = s.1 := by unfold endOf; rw [hsp]
        cases hd <;> simp only [t_told_end_b1, res_non, res_bl, res_int, res_str, res_tup, res_lst, res_scr, res_dK, bind_ok, bind_ex, bind_no, opt_some, opt_none, v_add, v_addL, v_addT, v_addS, v_sub, v_mul, v_mulL, v_fdiv, v_mod, v_eq, v_ne, v_lt, v_le, v_gt, v_ge, v_idxL, v_idxT, v_idxS, v_inS, v_ninS, v_inL, v_ninL, v_isN_non, v_nisN_non, v_isN_bl, v_nisN_bl, v_isN_int, v_nisN_int, v_isN_str, v_nisN_str, v_isN_tup, v_nisN_tup, v_isN_lst, v_nisN_lst, v_isN_scr, v_nisN_scr, v_isN_dK, v_nisN_dK, v_isB, v_nisB, u_lenL, u_lenT, u_lenC, u_lenD, u_neg, u_all, u_any, u_sum, u_tupL, u_tupT, u_tupR, u_intB, u_isi_int_non, u_isi_int_bl, u_isi_int_int, u_isi_int_str, u_isi_int_tup, u_isi_int_lst, u_isi_int_scr, u_isi_int_dK, u_isi_bool_non, u_isi_bool_bl, u_isi_bool_int, u_isi_bool_str, u_isi_bool_tup, u_isi_bool_lst, u_isi_bool_scr, u_isi_bool_dK, u_isi_str_non, u_isi_str_bl, u_isi_str_int, u_isi_str_str, u_isi_str_tup, u_isi_str_lst, u_isi_str_scr, u_isi_str_dK, u_isi_tuple_non, u_isi_tuple_bl, u_isi_tuple_int, u_isi_tuple_str, u_isi_tuple_tup, u_isi_tuple_lst, u_isi_tuple_scr, u_isi_tuple_dK, u_isi_list_non, u_isi_list_bl, u_isi_list_int, u_isi_list_str, u_isi_list_tup, u_isi_list_lst, u_isi_list_scr, u_isi_list_dK, u_isis_lt_non, u_isis_lt_bl, u_isis_lt_int, u_isis_lt_str, u_isis_lt_tup, u_isis_lt_lst, u_isis_lt_scr, u_isis_lt_dK, w_listL, w_listT, w_listR, w_srtS, w_srt, y_seqL, y_seqT, y_rng, y_chars, s_n, s_t, s_nil, s_cons, c_F0, c_F1, c_F2, c_F3, c_F4, c_F5, c_F6, c_F7, c_F8, c_F9, c_F10, c_F11, c_G0, c_G1, c_G2, c_G3, c_G4, nilT, nil_v, nil_k, nil_g, nil_o1, nil_o2, nil_and, nil_or, nil_not, nil_ch, nil_call, kn_non, km_non, kn_bl, km_bl, kn_int, km_int, kn_str, km_str, kn_scr, km_scr, kn_tup, kn_lst, km_tup, km_lst, evS, evE, evA, evX, eqB, callP, partI, slotLoc, isLst, appL, Option.map_some, Option.map_none, Option.bind_some, List.getElem?_cons_zero, List.getElem?_cons_succ, List.map_cons, List.map_nil, List.length_cons, List.length_nil, List.set_cons_zero, List.set_cons_succ, List.cons_append, List.nil_append, List.replicate_succ, List.replicate_zero, Nat.zero_add, Nat.reduceAdd, Nat.reduceSub, Nat.reduceLT, Int.reduceLT, Int.reduceLE, Int.reduceNeg, eq_self, and_self, and_true, true_and, Nat.reduceLeDiff, if_true, Bool.false_eq_true, if_false, ite_true, ite_false, decide_true, decide_false, Bool.not_true, Bool.not_false, Bool.and_true, Bool.true_and, wipeR, List.all_cons, List.all_nil, at_n, at_0, at_1, at_2, at_l, e_res_dPlan, e_len_dPlan, e_idx_dPlan, e_seq_dPlan, e_isi_int_dPlan, e_isi_bool_dPlan, e_isi_str_dPlan, e_isi_tuple_dPlan, e_isi_list_dPlan, e_isis_dPlan, e_isN_dPlan, e_nisN_dPlan, e_res_dMode, e_len_dMode, e_idx_dMode, e_seq_dMode, e_isi_int_dMode, e_isi_bool_dMode, e_isi_str_dMode, e_isi_tuple_dMode, e_isi_list_dMode, e_isis_dMode, e_isN_dMode, e_nisN_dMode, e_res_stL, e_len_stL, e_idx_stL, e_seq_stL, e_isi_int_stL, e_isi_bool_stL, e_isi_str_stL, e_isi_tuple_stL, e_isi_list_stL, e_isis_stL, e_isN_stL, e_nisN_stL, e_res_iL, e_len_iL, e_idx_iL, e_seq_iL, e_isi_int_iL, e_isi_bool_iL, e_isi_str_iL, e_isi_tuple_iL, e_isi_list_iL, e_isis_iL, e_isN_iL, e_nisN_iL, e_res_iT, e_len_iT, e_idx_iT, e_seq_iT, e_isi_int_iT, e_isi_bool_iT, e_isi_str_iT, e_isi_tuple_iT, e_isi_list_iT, e_isis_iT, e_isN_iT, e_nisN_iT, e_res_sL, e_len_sL, e_idx_sL, e_seq_sL, e_isi_int_sL, e_isi_bool_sL, e_isi_str_sL, e_isi_tuple_sL, e_isi_list_sL, e_isis_sL, e_isN_sL, e_nisN_sL, e_res_sT, e_len_sT, e_idx_sT, e_seq_sT, e_isi_int_sT, e_isi_bool_sT, e_isi_str_sT, e_isi_tuple_sT, e_isi_list_sT, e_isis_sT, e_isN_sT, e_nisN_sT, e_tuple_iL, e_list_iL, e_app_iL, e_tuple_iT, e_list_iT, e_appT_iL, e_tuple_sL, e_list_sL, e_app_sL, e_tuple_sT, e_list_sT, e_appT_sL, e_tuple_stL, e_list_stL, e_app_stL, e_tuple_dMode, e_list_dMode, e_appT_stL, e_resS, e_lenS, e_idx0, e_idx1, e_setS, e_all, e_srtS, ok_step, ok_mode, ok_stL, ok_plan, ok_iL, ok_iT, ok_sL, ok_sT, cm_step, cm_mode, cm_stL, cm_plan, cm_iL, cm_iT, cm_sL, cm_sT, eq_sL, eq_iL, eqD_int, eqD_str, e_isi_int_S, e_isi_bool_S, e_isi_str_S, e_isi_tuple_S, e_isi_list_S, it1_eq, it2_eq, itN_int, frzN_int, itN_str, frzN_str, itN_tup, frzN_tup, itN_lst, frzN_lst, itN_dPlan, frzN_dPlan, itN_dMode, frzN_dMode, itN_stL, frzN_stL, itN_iL, frzN_iL, itN_iT, frzN_iT, itN_sL, frzN_sL, itN_sT, frzN_sT, itN_dStep, frzN_dStep, frz_eq, frzN_loc, res_loc, dBools_bl, dInts_int, E_told_end_F0, E_told_end_F1, E_told_end_F2, hw, eq_stL_nil, hz', e0, List.length_map, hs, List.map_append, he', hsp])
  rw [List.length_map, Nat.zero_add, List.take_length] at ew
  have h60 : ((startsFor p row ds).map fun m => endOf p m row).length < 60 := by rw [List.length_map]; omega
  have es : evX1 .sortedSetI (.lst (((startsFor p row ds).map fun m => endOf p m row).map D.int)) = some ((setI ((startsFor p row ds).map fun m => endOf p m row)).map D.int) := by
    have := e_srtS ((startsFor p row ds).map fun m => endOf p m row)
    rw [if_pos h60] at this
    exact this
  unfold iL F_told_end runDef
  cases hd <;> cases he <;> simp only [t_told_end, t_told_end_f1, res_loc, it1_eq, evX, res_non, res_bl, res_int, res_str, res_tup, res_lst, res_scr, res_dK, bind_ok, bind_ex, bind_no, opt_some, opt_none, v_add, v_addL, v_addT, v_addS, v_sub, v_mul, v_mulL, v_fdiv, v_mod, v_eq, v_ne, v_lt, v_le, v_gt, v_ge, v_idxL, v_idxT, v_idxS, v_inS, v_ninS, v_inL, v_ninL, v_isN_non, v_nisN_non, v_isN_bl, v_nisN_bl, v_isN_int, v_nisN_int, v_isN_str, v_nisN_str, v_isN_tup, v_nisN_tup, v_isN_lst, v_nisN_lst, v_isN_scr, v_nisN_scr, v_isN_dK, v_nisN_dK, v_isB, v_nisB, u_lenL, u_lenT, u_lenC, u_lenD, u_neg, u_all, u_any, u_sum, u_tupL, u_tupT, u_tupR, u_intB, u_isi_int_non, u_isi_int_bl, u_isi_int_int, u_isi_int_str, u_isi_int_tup, u_isi_int_lst, u_isi_int_scr, u_isi_int_dK, u_isi_bool_non, u_isi_bool_bl, u_isi_bool_int, u_isi_bool_str, u_isi_bool_tup, u_isi_bool_lst, u_isi_bool_scr, u_isi_bool_dK, u_isi_str_non, u_isi_str_bl, u_isi_str_int, u_isi_str_str, u_isi_str_tup, u_isi_str_lst, u_isi_str_scr, u_isi_str_dK, u_isi_tuple_non, u_isi_tuple_bl, u_isi_tuple_int, u_isi_tuple_str, u_isi_tuple_tup, u_isi_tuple_lst, u_isi_tuple_scr, u_isi_tuple_dK, u_isi_list_non, u_isi_list_bl, u_isi_list_int, u_isi_list_str, u_isi_list_tup, u_isi_list_lst, u_isi_list_scr, u_isi_list_dK, u_isis_lt_non, u_isis_lt_bl, u_isis_lt_int, u_isis_lt_str, u_isis_lt_tup, u_isis_lt_lst, u_isis_lt_scr, u_isis_lt_dK, w_listL, w_listT, w_listR, w_srtS, w_srt, y_seqL, y_seqT, y_rng, y_chars, s_n, s_t, s_nil, s_cons, c_F0, c_F1, c_F2, c_F3, c_F4, c_F5, c_F6, c_F7, c_F8, c_F9, c_F10, c_F11, c_G0, c_G1, c_G2, c_G3, c_G4, nilT, nil_v, nil_k, nil_g, nil_o1, nil_o2, nil_and, nil_or, nil_not, nil_ch, nil_call, kn_non, km_non, kn_bl, km_bl, kn_int, km_int, kn_str, km_str, kn_scr, km_scr, kn_tup, kn_lst, km_tup, km_lst, evS, evE, evA, evX, eqB, callP, partI, slotLoc, isLst, appL, Option.map_some, Option.map_none, Option.bind_some, List.getElem?_cons_zero, List.getElem?_cons_succ, List.map_cons, List.map_nil, List.length_cons, List.length_nil, List.set_cons_zero, List.set_cons_succ, List.cons_append, List.nil_append, List.replicate_succ, List.replicate_zero, Nat.zero_add, Nat.reduceAdd, Nat.reduceSub, Nat.reduceLT, Int.reduceLT, Int.reduceLE, Int.reduceNeg, eq_self, and_self, and_true, true_and, Nat.reduceLeDiff, if_true, Bool.false_eq_true, if_false, ite_true, ite_false, decide_true, decide_false, Bool.not_true, Bool.not_false, Bool.and_true, Bool.true_and, wipeR, List.all_cons, List.all_nil, at_n, at_0, at_1, at_2, at_l, e_res_dPlan, e_len_dPlan, e_idx_dPlan, e_seq_dPlan, e_isi_int_dPlan, e_isi_bool_dPlan, e_isi_str_dPlan, e_isi_tuple_dPlan, e_isi_list_dPlan, e_isis_dPlan, e_isN_dPlan, e_nisN_dPlan, e_res_dMode, e_len_dMode, e_idx_dMode, e_seq_dMode, e_isi_int_dMode, e_isi_bool_dMode, e_isi_str_dMode, e_isi_tuple_dMode, e_isi_list_dMode, e_isis_dMode, e_isN_dMode, e_nisN_dMode, e_res_stL, e_len_stL, e_idx_stL, e_seq_stL, e_isi_int_stL, e_isi_bool_stL, e_isi_str_stL, e_isi_tuple_stL, e_isi_list_stL, e_isis_stL, e_isN_stL, e_nisN_stL, e_res_iL, e_len_iL, e_idx_iL, e_seq_iL, e_isi_int_iL, e_isi_bool_iL, e_isi_str_iL, e_isi_tuple_iL, e_isi_list_iL, e_isis_iL, e_isN_iL, e_nisN_iL, e_res_iT, e_len_iT, e_idx_iT, e_seq_iT, e_isi_int_iT, e_isi_bool_iT, e_isi_str_iT, e_isi_tuple_iT, e_isi_list_iT, e_isis_iT, e_isN_iT, e_nisN_iT, e_res_sL, e_len_sL, e_idx_sL, e_seq_sL, e_isi_int_sL, e_isi_bool_sL, e_isi_str_sL, e_isi_tuple_sL, e_isi_list_sL, e_isis_sL, e_isN_sL, e_nisN_sL, e_res_sT, e_len_sT, e_idx_sT, e_seq_sT, e_isi_int_sT, e_isi_bool_sT, e_isi_str_sT, e_isi_tuple_sT, e_isi_list_sT, e_isis_sT, e_isN_sT, e_nisN_sT, e_tuple_iL, e_list_iL, e_app_iL, e_tuple_iT, e_list_iT, e_appT_iL, e_tuple_sL, e_list_sL, e_app_sL, e_tuple_sT, e_list_sT, e_appT_sL, e_tuple_stL, e_list_stL, e_app_stL, e_tuple_dMode, e_list_dMode, e_appT_stL, e_resS, e_lenS, e_idx0, e_idx1, e_setS, e_all, e_srtS, ok_step, ok_mode, ok_stL, ok_plan, ok_iL, ok_iT, ok_sL, ok_sT, cm_step, cm_mode, cm_stL, cm_plan, cm_iL, cm_iT, cm_sL, cm_sT, eq_sL, eq_iL, eqD_int, eqD_str, e_isi_int_S, e_isi_bool_S, e_isi_str_S, e_isi_tuple_S, e_isi_list_S, it1_eq, it2_eq, itN_int, frzN_int, itN_str, frzN_str, itN_tup, frzN_tup, itN_lst, frzN_lst, itN_dPlan, frzN_dPlan, itN_dMode, frzN_dMode, itN_stL, frzN_stL, itN_iL, frzN_iL, itN_iT, frzN_iT, itN_sL, frzN_sL, itN_sT, frzN_sT, itN_dStep, frzN_dStep, frz_eq, frzN_loc, res_loc, dBools_bl, dInts_int, E_told_end_F0, E_told_end_F1, E_told_end_F2, h1, h2, e0, ew, ek, es]
end Bp

namespace Bp
open PySem L2
/-! ### what laws draw -/
def pools : List (List Str) := [["lap", ""], ["go", "", "set"], ["x", "lamp", "go", "", "abcdef"]]
def poolOf (ns : List Int) (at_ : Int) : List Str := pools.getD (pick ns (at_ + 2) 3).toNat []
def manyOf (ns : List Int) (at_ most : Int) : Nat := (1 + pick ns at_ most).toNat
def butsOf (ns : List Int) (at_ : Int) : Nat := (1 + pick ns (at_ + 1) 3).toNat
def stepAt (ns : List Int) (at_ : Int) (many : Nat) (pool : List Str) (mode b : Nat) : Step :=
  (pick ns (at_ + 10 + 8 * (mode : Int) + 2 * (b : Int)) many, pool.getD (pick ns (at_ + 10 + 8 * (mode : Int) + 2 * (b : Int) + 1) pool.length).toNat "")
def modeAt (ns : List Int) (at_ : Int) (many buts : Nat) (pool : List Str) (mode : Nat) : List Step := (List.range buts).map (stepAt ns at_ many pool mode)
def lawPlan (ns : List Int) (at_ most : Int) : Plan := (List.range (manyOf ns at_ most)).map (modeAt ns at_ (manyOf ns at_ most) (butsOf ns at_) (poolOf ns at_))
theorem poolOf_mem (ns : List Int) (at_ : Int) : poolOf ns at_ ∈ pools := by
  have := pick_lt ns (at_ + 2) (many := 3) (by omega)
  unfold poolOf
  rw [List.getD_eq_getElem?_getD, List.getElem?_eq_getElem (by show _ < 3; omega)]
  exact List.getElem_mem _
theorem poolOf_pos (ns : List Int) (at_ : Int) : 0 < (poolOf ns at_).length := by
  have h : ∀ l ∈ pools, 0 < l.length := by decide
  exact h _ (poolOf_mem ns at_)
theorem poolOf_deed (ns : List Int) (at_ : Int) : ∀ x ∈ poolOf ns at_, okDeed x = true := by
  have h : ∀ l ∈ pools, ∀ x ∈ l, okDeed x = true := by decide +kernel
  exact h _ (poolOf_mem ns at_)
theorem stepAt_ok (ns : List Int) (at_ : Int) {many : Nat} (hm : 0 < many) {pool : List Str} (hp : 0 < pool.length) (mode b : Nat) : 0 ≤ (stepAt ns at_ many pool mode b).1 ∧ (stepAt ns at_ many pool mode b).1 < many ∧ (stepAt ns at_ many pool mode b).2 ∈ pool := by
  have h1 := pick_lt ns (at_ + 10 + 8 * (mode : Int) + 2 * (b : Int)) (many := many) (by omega)
  have h2 := pick_lt ns (at_ + 10 + 8 * (mode : Int) + 2 * (b : Int) + 1) (many := pool.length) (by omega)
  refine ⟨h1.1, h1.2, ?_⟩
  unfold stepAt
  simp only
  rw [List.getD_eq_getElem?_getD, List.getElem?_eq_getElem (by omega)]
  exact List.getElem_mem _
theorem lawPlan_is (ns : List Int) (at_ most : Int) (h : 1 ≤ most ∧ most ≤ 6) : IsPlan (lawPlan ns at_ most) (butsOf ns at_) := by
  have h1 := pick_lt ns at_ (many := most) (by omega)
  have h2 := pick_lt ns (at_ + 1) (many := 3) (by omega)
  have hm : 1 ≤ manyOf ns at_ most ∧ manyOf ns at_ most ≤ 6 := by unfold manyOf; omega
  have hb : 1 ≤ butsOf ns at_ ∧ butsOf ns at_ ≤ 3 := by unfold butsOf; omega
  have hl : (lawPlan ns at_ most).length = manyOf ns at_ most := by simp [lawPlan]
  have hs : ∀ m ∈ lawPlan ns at_ most, ∀ s ∈ m, ∃ i b, s = stepAt ns at_ (manyOf ns at_ most) (poolOf ns at_) i b := by
    intro m hm s hs
    obtain ⟨i, _, rfl⟩ := List.mem_map.mp hm
    obtain ⟨b, _, rfl⟩ := List.mem_map.mp hs
    exact ⟨i, b, rfl⟩
  refine ⟨by omega, by omega, hb.1, hb.2, ?_, ?_, ?_⟩
  · intro m hm
    obtain ⟨i, _, rfl⟩ := List.mem_map.mp hm
    simp [modeAt]
  · intro m hm s hs'
    obtain ⟨i, b, rfl⟩ := hs m hm s hs'
    have := stepAt_ok ns at_ (many := manyOf ns at_ most) (by omega) (poolOf_pos ns at_) i b
    rw [hl]
    exact ⟨this.1, this.2.1⟩
  · intro m hm s hs'
    obtain ⟨i, b, rfl⟩ := hs m hm s hs'
    exact poolOf_deed ns at_ _ (stepAt_ok ns at_ (many := manyOf ns at_ most) (by omega) (poolOf_pos ns at_) i b).2.2
theorem lplan_in (ns : List Int) (at_ : Int) (ha : 0 ≤ at_) (most : D) {many buts : Nat} (hm : 0 < many) (hb : buts ≤ 1000) {pool : List Str} (hp : 0 < pool.length) (mode : Nat) (x y : Option D) (made : List D) (rest : Sto) :
    ∃ x' y', evS E_u_law_plan t_u_law_plan_f1 [some (.scr ns), some (.int at_), some most, some (sL pool), some (.loc 0), some (.int (mode : Nat)), some (.int (many : Nat)), some (.int (buts : Nat)), some (.loc (rest.length + 1)), x, y] (.lst made :: (rest ++ [.lst []])) =
      .nx [some (.scr ns), some (.int at_), some most, some (sL pool), some (.loc 0), some (.int (mode : Nat)), some (.int (many : Nat)), some (.int (buts : Nat)), some (.loc (rest.length + 1)), x', y'] (.lst made :: (rest ++ [.lst ((modeAt ns at_ many buts pool mode).map dStep)])) := by
  have hs := sizeLine_big
  obtain ⟨r', S', ew, x', y', rfl, rfl⟩ := forL_inv (tg := .n 9) (b := fun r S => evS E_u_law_plan t_u_law_plan_b1 r S) (fun n r S => ∃ x y, r = [some (.scr ns), some (.int at_), some most, some (sL pool), some (.loc 0), some (.int (mode : Nat)), some (.int (many : Nat)), some (.int (buts : Nat)), some (.loc (rest.length + 1)), x, y] ∧ S = (.lst made :: (rest ++ [.lst (((List.range n).map (stepAt ns at_ many pool mode)).map dStep)]))) (rangeD buts) 0 [some (.scr ns), some (.int at_), some most, some (sL pool), some (.loc 0), some (.int (mode : Nat)), some (.int (many : Nat)), some (.int (buts : Nat)), some (.loc (rest.length + 1)), x, y] (.lst made :: (rest ++ [.lst []])) ⟨_, _, rfl, rfl⟩ (by
    rintro i d' r S hd' ⟨x, y, rfl, rfl⟩
    obtain ⟨hi, rfl⟩ := rangeD_get hd'
    rw [Int.toNat_natCast] at hi
    rw [Nat.zero_add]
    have q1 : ∀ i, mulOk 8 i = true := mulOk_l (by omega)
    have q2 : ∀ i, mulOk 2 i = true := mulOk_l (by omega)
    have p1 := pick_ok ns (at_ + 10 + 8 * (mode : Int) + 2 * (i : Int)) many (by omega) (by omega)
    have p2 := pick_ok ns (at_ + 10 + 8 * (mode : Int) + 2 * (i : Int) + 1) pool.length (by omega) (by omega)
    have b2 := pick_lt ns (at_ + 10 + 8 * (mode : Int) + 2 * (i : Int) + 1) (many := pool.length) (by omega)
    have e2 := at_i ("" : Str) (xs := pool) b2.1 b2.2
    have t2 : (2 : Nat) ≤ sizeLine := by omega
    have hl : i < sizeLine := by omega
    refine ⟨_, [some (.scr ns), some (.int at_), some most, some (sL pool), some (.loc 0), some (.int (mode : Nat)), some (.int (many : Nat)), some (.int (buts : Nat)), some (.loc (rest.length + 1)), some (.int (i : Nat)), some (.int (at_ + 10 + 8 * (mode : Int) + 2 * (i : Int)))], (.lst made :: (rest ++ [.lst (((List.range (i + 1)).map (stepAt ns at_ many pool mode)).map dStep)])), rfl, .inl ?_, _, _, rfl, rfl⟩
    simp only [t_u_law_plan_b1, res_non, res_bl, res_int, res_str, res_tup, res_lst, res_scr, res_dK, bind_ok, bind_ex, bind_no, opt_some, opt_none, v_add, v_addL, v_addT, v_addS, v_sub, v_mul, v_mulL, v_fdiv, v_mod, v_eq, v_ne, v_lt, v_le, v_gt, v_ge, v_idxL, v_idxT, v_idxS, v_inS, v_ninS, v_inL, v_ninL, v_isN_non, v_nisN_non, v_isN_bl, v_nisN_bl, v_isN_int, v_nisN_int, v_isN_str, v_nisN_str, v_isN_tup, v_nisN_tup, v_isN_lst, v_nisN_lst, v_isN_scr, v_nisN_scr, v_isN_dK, v_nisN_dK, v_isB, v_nisB, u_lenL, u_lenT, u_lenC, u_lenD, u_neg, u_all, u_any, u_sum, u_tupL, u_tupT, u_tupR, u_intB, u_isi_int_non, u_isi_int_bl, u_isi_int_int, u_isi_int_str, u_isi_int_tup, u_isi_int_lst, u_isi_int_scr, u_isi_int_dK, u_isi_bool_non, u_isi_bool_bl, u_isi_bool_int, u_isi_bool_str, u_isi_bool_tup, u_isi_bool_lst, u_isi_bool_scr, u_isi_bool_dK, u_isi_str_non, u_isi_str_bl, u_isi_str_int, u_isi_str_str, u_isi_str_tup, u_isi_str_lst, u_isi_str_scr, u_isi_str_dK, u_isi_tuple_non, u_isi_tuple_bl, u_isi_tuple_int, u_isi_tuple_str, u_isi_tuple_tup, u_isi_tuple_lst, u_isi_tuple_scr, u_isi_tuple_dK, u_isi_list_non, u_isi_list_bl, u_isi_list_int, u_isi_list_str, u_isi_list_tup, u_isi_list_lst, u_isi_list_scr, u_isi_list_dK, u_isis_lt_non, u_isis_lt_bl, u_isis_lt_int, u_isis_lt_str, u_isis_lt_tup, u_isis_lt_lst, u_isis_lt_scr, u_isis_lt_dK, w_listL, w_listT, w_listR, w_srtS, w_srt, y_seqL, y_seqT, y_rng, y_chars, s_n, s_t, s_nil, s_cons, c_F0, c_F1, c_F2, c_F3, c_F4, c_F5, c_F6, c_F7, c_F8, c_F9, c_F10, c_F11, c_G0, c_G1, c_G2, c_G3, c_G4, nilT, nil_v, nil_k, nil_g, nil_o1, nil_o2, nil_and, nil_or, nil_not, nil_ch, nil_call, kn_non, km_non, kn_bl, km_bl, kn_int, km_int, kn_str, km_str, kn_scr, km_scr, kn_tup, kn_lst, km_tup, km_lst, evS, evE, evA, evX, eqB, callP, partI, slotLoc, isLst, appL, Option.map_some, Option.map_none, Option.bind_some, List.getElem?_cons_zero, List.getElem?_cons_succ, List.map_cons, List.map_nil, List.length_cons, List.length_nil, List.set_cons_zero, List.set_cons_succ, List.cons_append, List.nil_append, List.replicate_succ, List.replicate_zero, Nat.zero_add, Nat.reduceAdd, Nat.reduceSub, Nat.reduceLT, Int.reduceLT, Int.reduceLE, Int.reduceNeg, eq_self, and_self, and_true, true_and, Nat.reduceLeDiff, if_true, Bool.false_eq_true, if_false, ite_true, ite_false, decide_true, decide_false, Bool.not_true, Bool.not_false, Bool.and_true, Bool.true_and, wipeR, List.all_cons, List.all_nil, at_n, at_0, at_1, at_2, at_l, e_res_dPlan, e_len_dPlan, e_idx_dPlan, e_seq_dPlan, e_isi_int_dPlan, e_isi_bool_dPlan, e_isi_str_dPlan, e_isi_tuple_dPlan, e_isi_list_dPlan, e_isis_dPlan, e_isN_dPlan, e_nisN_dPlan, e_res_dMode, e_len_dMode, e_idx_dMode, e_seq_dMode, e_isi_int_dMode, e_isi_bool_dMode, e_isi_str_dMode, e_isi_tuple_dMode, e_isi_list_dMode, e_isis_dMode, e_isN_dMode, e_nisN_dMode, e_res_stL, e_len_stL, e_idx_stL, e_seq_stL, e_isi_int_stL, e_isi_bool_stL, e_isi_str_stL, e_isi_tuple_stL, e_isi_list_stL, e_isis_stL, e_isN_stL, e_nisN_stL, e_res_iL, e_len_iL, e_idx_iL, e_seq_iL, e_isi_int_iL, e_isi_bool_iL, e_isi_str_iL, e_isi_tuple_iL, e_isi_list_iL, e_isis_iL, e_isN_iL, e_nisN_iL, e_res_iT, e_len_iT, e_idx_iT, e_seq_iT, e_isi_int_iT, e_isi_bool_iT, e_isi_str_iT, e_isi_tuple_iT, e_isi_list_iT, e_isis_iT, e_isN_iT, e_nisN_iT, e_res_sL, e_len_sL, e_idx_sL, e_seq_sL, e_isi_int_sL, e_isi_bool_sL, e_isi_str_sL, e_isi_tuple_sL, e_isi_list_sL, e_isis_sL, e_isN_sL, e_nisN_sL, e_res_sT, e_len_sT, e_idx_sT, e_seq_sT, e_isi_int_sT, e_isi_bool_sT, e_isi_str_sT, e_isi_tuple_sT, e_isi_list_sT, e_isis_sT, e_isN_sT, e_nisN_sT, e_tuple_iL, e_list_iL, e_app_iL, e_tuple_iT, e_list_iT, e_appT_iL, e_tuple_sL, e_list_sL, e_app_sL, e_tuple_sT, e_list_sT, e_appT_sL, e_tuple_stL, e_list_stL, e_app_stL, e_tuple_dMode, e_list_dMode, e_appT_stL, e_resS, e_lenS, e_idx0, e_idx1, e_setS, e_all, e_srtS, ok_step, ok_mode, ok_stL, ok_plan, ok_iL, ok_iT, ok_sL, ok_sT, cm_step, cm_mode, cm_stL, cm_plan, cm_iL, cm_iT, cm_sL, cm_sT, eq_sL, eq_iL, eqD_int, eqD_str, e_isi_int_S, e_isi_bool_S, e_isi_str_S, e_isi_tuple_S, e_isi_list_S, it1_eq, it2_eq, itN_int, frzN_int, itN_str, frzN_str, itN_tup, frzN_tup, itN_lst, frzN_lst, itN_dPlan, frzN_dPlan, itN_dMode, frzN_dMode, itN_stL, frzN_stL, itN_iL, frzN_iL, itN_iT, frzN_iT, itN_sL, frzN_sL, itN_sT, frzN_sT, itN_dStep, frzN_dStep, frz_eq, frzN_loc, res_loc, dBools_bl, dInts_int, E_u_law_plan_F0, p1, p2, e2, q1, q2, t2, hl, set_end, get_end, List.length_map, List.length_range, map_range_succ, List.map_append]
    rfl)
  rw [rangeD_len, Int.toNat_natCast, Nat.zero_add] at ew
  refine ⟨x', y', ?_⟩
  have h1 : smallI ((buts : Nat) : Int) = true := smallI_of (by omega)
  simp only [t_u_law_plan_f1, res_non, res_bl, res_int, res_str, res_tup, res_lst, res_scr, res_dK, bind_ok, bind_ex, bind_no, opt_some, opt_none, v_add, v_addL, v_addT, v_addS, v_sub, v_mul, v_mulL, v_fdiv, v_mod, v_eq, v_ne, v_lt, v_le, v_gt, v_ge, v_idxL, v_idxT, v_idxS, v_inS, v_ninS, v_inL, v_ninL, v_isN_non, v_nisN_non, v_isN_bl, v_nisN_bl, v_isN_int, v_nisN_int, v_isN_str, v_nisN_str, v_isN_tup, v_nisN_tup, v_isN_lst, v_nisN_lst, v_isN_scr, v_nisN_scr, v_isN_dK, v_nisN_dK, v_isB, v_nisB, u_lenL, u_lenT, u_lenC, u_lenD, u_neg, u_all, u_any, u_sum, u_tupL, u_tupT, u_tupR, u_intB, u_isi_int_non, u_isi_int_bl, u_isi_int_int, u_isi_int_str, u_isi_int_tup, u_isi_int_lst, u_isi_int_scr, u_isi_int_dK, u_isi_bool_non, u_isi_bool_bl, u_isi_bool_int, u_isi_bool_str, u_isi_bool_tup, u_isi_bool_lst, u_isi_bool_scr, u_isi_bool_dK, u_isi_str_non, u_isi_str_bl, u_isi_str_int, u_isi_str_str, u_isi_str_tup, u_isi_str_lst, u_isi_str_scr, u_isi_str_dK, u_isi_tuple_non, u_isi_tuple_bl, u_isi_tuple_int, u_isi_tuple_str, u_isi_tuple_tup, u_isi_tuple_lst, u_isi_tuple_scr, u_isi_tuple_dK, u_isi_list_non, u_isi_list_bl, u_isi_list_int, u_isi_list_str, u_isi_list_tup, u_isi_list_lst, u_isi_list_scr, u_isi_list_dK, u_isis_lt_non, u_isis_lt_bl, u_isis_lt_int, u_isis_lt_str, u_isis_lt_tup, u_isis_lt_lst, u_isis_lt_scr, u_isis_lt_dK, w_listL, w_listT, w_listR, w_srtS, w_srt, y_seqL, y_seqT, y_rng, y_chars, s_n, s_t, s_nil, s_cons, c_F0, c_F1, c_F2, c_F3, c_F4, c_F5, c_F6, c_F7, c_F8, c_F9, c_F10, c_F11, c_G0, c_G1, c_G2, c_G3, c_G4, nilT, nil_v, nil_k, nil_g, nil_o1, nil_o2, nil_and, nil_or, nil_not, nil_ch, nil_call, kn_non, km_non, kn_bl, km_bl, kn_int, km_int, kn_str, km_str, kn_scr, km_scr, kn_tup, kn_lst, km_tup, km_lst, evS, evE, evA, evX, eqB, callP, partI, slotLoc, isLst, appL, Option.map_some, Option.map_none, Option.bind_some, List.getElem?_cons_zero, List.getElem?_cons_succ, List.map_cons, List.map_nil, List.length_cons, List.length_nil, List.set_cons_zero, List.set_cons_succ, List.cons_append, List.nil_append, List.replicate_succ, List.replicate_zero, Nat.zero_add, Nat.reduceAdd, Nat.reduceSub, Nat.reduceLT, Int.reduceLT, Int.reduceLE, Int.reduceNeg, eq_self, and_self, and_true, true_and, Nat.reduceLeDiff, if_true, Bool.false_eq_true, if_false, ite_true, ite_false, decide_true, decide_false, Bool.not_true, Bool.not_false, Bool.and_true, Bool.true_and, wipeR, List.all_cons, List.all_nil, at_n, at_0, at_1, at_2, at_l, e_res_dPlan, e_len_dPlan, e_idx_dPlan, e_seq_dPlan, e_isi_int_dPlan, e_isi_bool_dPlan, e_isi_str_dPlan, e_isi_tuple_dPlan, e_isi_list_dPlan, e_isis_dPlan, e_isN_dPlan, e_nisN_dPlan, e_res_dMode, e_len_dMode, e_idx_dMode, e_seq_dMode, e_isi_int_dMode, e_isi_bool_dMode, e_isi_str_dMode, e_isi_tuple_dMode, e_isi_list_dMode, e_isis_dMode, e_isN_dMode, e_nisN_dMode, e_res_stL, e_len_stL, e_idx_stL, e_seq_stL, e_isi_int_stL, e_isi_bool_stL, e_isi_str_stL, e_isi_tuple_stL, e_isi_list_stL, e_isis_stL, e_isN_stL, e_nisN_stL, e_res_iL, e_len_iL, e_idx_iL, e_seq_iL, e_isi_int_iL, e_isi_bool_iL, e_isi_str_iL, e_isi_tuple_iL, e_isi_list_iL, e_isis_iL, e_isN_iL, e_nisN_iL, e_res_iT, e_len_iT, e_idx_iT, e_seq_iT, e_isi_int_iT, e_isi_bool_iT, e_isi_str_iT, e_isi_tuple_iT, e_isi_list_iT, e_isis_iT, e_isN_iT, e_nisN_iT, e_res_sL, e_len_sL, e_idx_sL, e_seq_sL, e_isi_int_sL, e_isi_bool_sL, e_isi_str_sL, e_isi_tuple_sL, e_isi_list_sL, e_isis_sL, e_isN_sL, e_nisN_sL, e_res_sT, e_len_sT, e_idx_sT, e_seq_sT, e_isi_int_sT, e_isi_bool_sT, e_isi_str_sT, e_isi_tuple_sT, e_isi_list_sT, e_isis_sT, e_isN_sT, e_nisN_sT, e_tuple_iL, e_list_iL, e_app_iL, e_tuple_iT, e_list_iT, e_appT_iL, e_tuple_sL, e_list_sL, e_app_sL, e_tuple_sT, e_list_sT, e_appT_sL, e_tuple_stL, e_list_stL, e_app_stL, e_tuple_dMode, e_list_dMode, e_appT_stL, e_resS, e_lenS, e_idx0, e_idx1, e_setS, e_all, e_srtS, ok_step, ok_mode, ok_stL, ok_plan, ok_iL, ok_iT, ok_sL, ok_sT, cm_step, cm_mode, cm_stL, cm_plan, cm_iL, cm_iT, cm_sL, cm_sT, eq_sL, eq_iL, eqD_int, eqD_str, e_isi_int_S, e_isi_bool_S, e_isi_str_S, e_isi_tuple_S, e_isi_list_S, it1_eq, it2_eq, itN_int, frzN_int, itN_str, frzN_str, itN_tup, frzN_tup, itN_lst, frzN_lst, itN_dPlan, frzN_dPlan, itN_dMode, frzN_dMode, itN_stL, frzN_stL, itN_iL, frzN_iL, itN_iT, frzN_iT, itN_sL, frzN_sL, itN_sT, frzN_sT, itN_dStep, frzN_dStep, frz_eq, frzN_loc, res_loc, dBools_bl, dInts_int, h1, ew]
  rfl
end Bp

namespace Bp
open PySem L2
theorem lplan_out (ns : List Int) (at_ : Int) (ha : 0 ≤ at_) (most : D) {many buts : Nat} (hm : 0 < many) (hm2 : many ≤ 1000) (hb : buts ≤ 1000) {pool : List Str} (hp : 0 < pool.length) :
    ∃ x y z w rest, evS E_u_law_plan t_u_law_plan_f2 [some (.scr ns), some (.int at_), some most, some (sL pool), some (.loc 0), none, some (.int (many : Nat)), some (.int (buts : Nat)), none, none, none] [.lst []] =
      .nx [some (.scr ns), some (.int at_), some most, some (sL pool), some (.loc 0), x, some (.int (many : Nat)), some (.int (buts : Nat)), y, z, w] (.lst (((List.range many).map (modeAt ns at_ many buts pool)).map dMode) :: rest) := by
  have hs := sizeLine_big
  obtain ⟨r', S', ew, x', y', z', w', rest', rfl, rfl⟩ := forL_inv (tg := .n 5) (b := fun r S => evS E_u_law_plan t_u_law_plan_b2 r S) (fun n r S => ∃ x y z w rest, r = [some (.scr ns), some (.int at_), some most, some (sL pool), some (.loc 0), x, some (.int (many : Nat)), some (.int (buts : Nat)), y, z, w] ∧ S = (.lst (((List.range n).map (modeAt ns at_ many buts pool)).map dMode) :: rest)) (rangeD many) 0 [some (.scr ns), some (.int at_), some most, some (sL pool), some (.loc 0), none, some (.int (many : Nat)), some (.int (buts : Nat)), none, none, none] [.lst []] ⟨_, _, _, _, [], rfl, rfl⟩ (by
    rintro i d' r S hd' ⟨x, y, z, w, rest, rfl, rfl⟩
    obtain ⟨hi, rfl⟩ := rangeD_get hd'
    rw [Int.toNat_natCast] at hi
    rw [Nat.zero_add]
    obtain ⟨z2, w2, e1⟩ := lplan_in ns at_ ha most hm hb hp i z w (((List.range i).map (modeAt ns at_ many buts pool)).map dMode) rest
    have e0 : (0 : Nat) ≤ sizeLine := by omega
    have hl : i < sizeLine := by omega
    refine ⟨_, [some (.scr ns), some (.int at_), some most, some (sL pool), some (.loc 0), some (.int (i : Nat)), some (.int (many : Nat)), some (.int (buts : Nat)), some (.loc (rest.length + 1)), z2, w2], (.lst (((List.range (i + 1)).map (modeAt ns at_ many buts pool)).map dMode) :: (rest ++ [.lst ((modeAt ns at_ many buts pool i).map dStep)])), rfl, .inl ?_, _, _, _, _, _, rfl, rfl⟩
    simp only [t_u_law_plan_b2, res_non, res_bl, res_int, res_str, res_tup, res_lst, res_scr, res_dK, bind_ok, bind_ex, bind_no, opt_some, opt_none, v_add, v_addL, v_addT, v_addS, v_sub, v_mul, v_mulL, v_fdiv, v_mod, v_eq, v_ne, v_lt, v_le, v_gt, v_ge, v_idxL, v_idxT, v_idxS, v_inS, v_ninS, v_inL, v_ninL, v_isN_non, v_nisN_non, v_isN_bl, v_nisN_bl, v_isN_int, v_nisN_int, v_isN_str, v_nisN_str, v_isN_tup, v_nisN_tup, v_isN_lst, v_nisN_lst, v_isN_scr, v_nisN_scr, v_isN_dK, v_nisN_dK, v_isB, v_nisB, u_lenL, u_lenT, u_lenC, u_lenD, u_neg, u_all, u_any, u_sum, u_tupL, u_tupT, u_tupR, u_intB, u_isi_int_non, u_isi_int_bl, u_isi_int_int, u_isi_int_str, u_isi_int_tup, u_isi_int_lst, u_isi_int_scr, u_isi_int_dK, u_isi_bool_non, u_isi_bool_bl, u_isi_bool_int, u_isi_bool_str, u_isi_bool_tup, u_isi_bool_lst, u_isi_bool_scr, u_isi_bool_dK, u_isi_str_non, u_isi_str_bl, u_isi_str_int, u_isi_str_str, u_isi_str_tup, u_isi_str_lst, u_isi_str_scr, u_isi_str_dK, u_isi_tuple_non, u_isi_tuple_bl, u_isi_tuple_int, u_isi_tuple_str, u_isi_tuple_tup, u_isi_tuple_lst, u_isi_tuple_scr, u_isi_tuple_dK, u_isi_list_non, u_isi_list_bl, u_isi_list_int, u_isi_list_str, u_isi_list_tup, u_isi_list_lst, u_isi_list_scr, u_isi_list_dK, u_isis_lt_non, u_isis_lt_bl, u_isis_lt_int, u_isis_lt_str, u_isis_lt_tup, u_isis_lt_lst, u_isis_lt_scr, u_isis_lt_dK, w_listL, w_listT, w_listR, w_srtS, w_srt, y_seqL, y_seqT, y_rng, y_chars, s_n, s_t, s_nil, s_cons, c_F0, c_F1, c_F2, c_F3, c_F4, c_F5, c_F6, c_F7, c_F8, c_F9, c_F10, c_F11, c_G0, c_G1, c_G2, c_G3, c_G4, nilT, nil_v, nil_k, nil_g, nil_o1, nil_o2, nil_and, nil_or, nil_not, nil_ch, nil_call, kn_non, km_non, kn_bl, km_bl, kn_int, km_int, kn_str, km_str, kn_scr, km_scr, kn_tup, kn_lst, km_tup, km_lst, evS, evE, evA, evX, eqB, callP, partI, slotLoc, isLst, appL, Option.map_some, Option.map_none, Option.bind_some, List.getElem?_cons_zero, List.getElem?_cons_succ, List.map_cons, List.map_nil, List.length_cons, List.length_nil, List.set_cons_zero, List.set_cons_succ, List.cons_append, List.nil_append, List.replicate_succ, List.replicate_zero, Nat.zero_add, Nat.reduceAdd, Nat.reduceSub, Nat.reduceLT, Int.reduceLT, Int.reduceLE, Int.reduceNeg, eq_self, and_self, and_true, true_and, Nat.reduceLeDiff, if_true, Bool.false_eq_true, if_false, ite_true, ite_false, decide_true, decide_false, Bool.not_true, Bool.not_false, Bool.and_true, Bool.true_and, wipeR, List.all_cons, List.all_nil, at_n, at_0, at_1, at_2, at_l, e_res_dPlan, e_len_dPlan, e_idx_dPlan, e_seq_dPlan, e_isi_int_dPlan, e_isi_bool_dPlan, e_isi_str_dPlan, e_isi_tuple_dPlan, e_isi_list_dPlan, e_isis_dPlan, e_isN_dPlan, e_nisN_dPlan, e_res_dMode, e_len_dMode, e_idx_dMode, e_seq_dMode, e_isi_int_dMode, e_isi_bool_dMode, e_isi_str_dMode, e_isi_tuple_dMode, e_isi_list_dMode, e_isis_dMode, e_isN_dMode, e_nisN_dMode, e_res_stL, e_len_stL, e_idx_stL, e_seq_stL, e_isi_int_stL, e_isi_bool_stL, e_isi_str_stL, e_isi_tuple_stL, e_isi_list_stL, e_isis_stL, e_isN_stL, e_nisN_stL, e_res_iL, e_len_iL, e_idx_iL, e_seq_iL, e_isi_int_iL, e_isi_bool_iL, e_isi_str_iL, e_isi_tuple_iL, e_isi_list_iL, e_isis_iL, e_isN_iL, e_nisN_iL, e_res_iT, e_len_iT, e_idx_iT, e_seq_iT, e_isi_int_iT, e_isi_bool_iT, e_isi_str_iT, e_isi_tuple_iT, e_isi_list_iT, e_isis_iT, e_isN_iT, e_nisN_iT, e_res_sL, e_len_sL, e_idx_sL, e_seq_sL, e_isi_int_sL, e_isi_bool_sL, e_isi_str_sL, e_isi_tuple_sL, e_isi_list_sL, e_isis_sL, e_isN_sL, e_nisN_sL, e_res_sT, e_len_sT, e_idx_sT, e_seq_sT, e_isi_int_sT, e_isi_bool_sT, e_isi_str_sT, e_isi_tuple_sT, e_isi_list_sT, e_isis_sT, e_isN_sT, e_nisN_sT, e_tuple_iL, e_list_iL, e_app_iL, e_tuple_iT, e_list_iT, e_appT_iL, e_tuple_sL, e_list_sL, e_app_sL, e_tuple_sT, e_list_sT, e_appT_sL, e_tuple_stL, e_list_stL, e_app_stL, e_tuple_dMode, e_list_dMode, e_appT_stL, e_resS, e_lenS, e_idx0, e_idx1, e_setS, e_all, e_srtS, ok_step, ok_mode, ok_stL, ok_plan, ok_iL, ok_iT, ok_sL, ok_sT, cm_step, cm_mode, cm_stL, cm_plan, cm_iL, cm_iT, cm_sL, cm_sT, eq_sL, eq_iL, eqD_int, eqD_str, e_isi_int_S, e_isi_bool_S, e_isi_str_S, e_isi_tuple_S, e_isi_list_S, it1_eq, it2_eq, itN_int, frzN_int, itN_str, frzN_str, itN_tup, frzN_tup, itN_lst, frzN_lst, itN_dPlan, frzN_dPlan, itN_dMode, frzN_dMode, itN_stL, frzN_stL, itN_iL, frzN_iL, itN_iT, frzN_iT, itN_sL, frzN_sL, itN_sT, frzN_sT, itN_dStep, frzN_dStep, frz_eq, frzN_loc, res_loc, dBools_bl, dInts_int, e0, e1, get_end, hl, List.length_map, List.length_range, map_range_succ, List.map_append, List.append_assoc]
    rfl)
  rw [rangeD_len, Int.toNat_natCast, Nat.zero_add] at ew
  refine ⟨x', y', z', w', rest', ?_⟩
  have h1 : smallI ((many : Nat) : Int) = true := smallI_of (by omega)
  simp only [t_u_law_plan_f2, res_non, res_bl, res_int, res_str, res_tup, res_lst, res_scr, res_dK, bind_ok, bind_ex, bind_no, opt_some, opt_none, v_add, v_addL, v_addT, v_addS, v_sub, v_mul, v_mulL, v_fdiv, v_mod, v_eq, v_ne, v_lt, v_le, v_gt, v_ge, v_idxL, v_idxT, v_idxS, v_inS, v_ninS, v_inL, v_ninL, v_isN_non, v_nisN_non, v_isN_bl, v_nisN_bl, v_isN_int, v_nisN_int, v_isN_str, v_nisN_str, v_isN_tup, v_nisN_tup, v_isN_lst, v_nisN_lst, v_isN_scr, v_nisN_scr, v_isN_dK, v_nisN_dK, v_isB, v_nisB, u_lenL, u_lenT, u_lenC, u_lenD, u_neg, u_all, u_any, u_sum, u_tupL, u_tupT, u_tupR, u_intB, u_isi_int_non, u_isi_int_bl, u_isi_int_int, u_isi_int_str, u_isi_int_tup, u_isi_int_lst, u_isi_int_scr, u_isi_int_dK, u_isi_bool_non, u_isi_bool_bl, u_isi_bool_int, u_isi_bool_str, u_isi_bool_tup, u_isi_bool_lst, u_isi_bool_scr, u_isi_bool_dK, u_isi_str_non, u_isi_str_bl, u_isi_str_int, u_isi_str_str, u_isi_str_tup, u_isi_str_lst, u_isi_str_scr, u_isi_str_dK, u_isi_tuple_non, u_isi_tuple_bl, u_isi_tuple_int, u_isi_tuple_str, u_isi_tuple_tup, u_isi_tuple_lst, u_isi_tuple_scr, u_isi_tuple_dK, u_isi_list_non, u_isi_list_bl, u_isi_list_int, u_isi_list_str, u_isi_list_tup, u_isi_list_lst, u_isi_list_scr, u_isi_list_dK, u_isis_lt_non, u_isis_lt_bl, u_isis_lt_int, u_isis_lt_str, u_isis_lt_tup, u_isis_lt_lst, u_isis_lt_scr, u_isis_lt_dK, w_listL, w_listT, w_listR, w_srtS, w_srt, y_seqL, y_seqT, y_rng, y_chars, s_n, s_t, s_nil, s_cons, c_F0, c_F1, c_F2, c_F3, c_F4, c_F5, c_F6, c_F7, c_F8, c_F9, c_F10, c_F11, c_G0, c_G1, c_G2, c_G3, c_G4, nilT, nil_v, nil_k, nil_g, nil_o1, nil_o2, nil_and, nil_or, nil_not, nil_ch, nil_call, kn_non, km_non, kn_bl, km_bl, kn_int, km_int, kn_str, km_str, kn_scr, km_scr, kn_tup, kn_lst, km_tup, km_lst, evS, evE, evA, evX, eqB, callP, partI, slotLoc, isLst, appL, Option.map_some, Option.map_none, Option.bind_some, List.getElem?_cons_zero, List.getElem?_cons_succ, List.map_cons, List.map_nil, List.length_cons, List.length_nil, List.set_cons_zero, List.set_cons_succ, List.cons_append, List.nil_append, List.replicate_succ, List.replicate_zero, Nat.zero_add, Nat.reduceAdd, Nat.reduceSub, Nat.reduceLT, Int.reduceLT, Int.reduceLE, Int.reduceNeg, eq_self, and_self, and_true, true_and, Nat.reduceLeDiff, if_true, Bool.false_eq_true, if_false, ite_true, ite_false, decide_true, decide_false, Bool.not_true, Bool.not_false, Bool.and_true, Bool.true_and, wipeR, List.all_cons, List.all_nil, at_n, at_0, at_1, at_2, at_l, e_res_dPlan, e_len_dPlan, e_idx_dPlan, e_seq_dPlan, e_isi_int_dPlan, e_isi_bool_dPlan, e_isi_str_dPlan, e_isi_tuple_dPlan, e_isi_list_dPlan, e_isis_dPlan, e_isN_dPlan, e_nisN_dPlan, e_res_dMode, e_len_dMode, e_idx_dMode, e_seq_dMode, e_isi_int_dMode, e_isi_bool_dMode, e_isi_str_dMode, e_isi_tuple_dMode, e_isi_list_dMode, e_isis_dMode, e_isN_dMode, e_nisN_dMode, e_res_stL, e_len_stL, e_idx_stL, e_seq_stL, e_isi_int_stL, e_isi_bool_stL, e_isi_str_stL, e_isi_tuple_stL, e_isi_list_stL, e_isis_stL, e_isN_stL, e_nisN_stL, e_res_iL, e_len_iL, e_idx_iL, e_seq_iL, e_isi_int_iL, e_isi_bool_iL, e_isi_str_iL, e_isi_tuple_iL, e_isi_list_iL, e_isis_iL, e_isN_iL, e_nisN_iL, e_res_iT, e_len_iT, e_idx_iT, e_seq_iT, e_isi_int_iT, e_isi_bool_iT, e_isi_str_iT, e_isi_tuple_iT, e_isi_list_iT, e_isis_iT, e_isN_iT, e_nisN_iT, e_res_sL, e_len_sL, e_idx_sL, e_seq_sL, e_isi_int_sL, e_isi_bool_sL, e_isi_str_sL, e_isi_tuple_sL, e_isi_list_sL, e_isis_sL, e_isN_sL, e_nisN_sL, e_res_sT, e_len_sT, e_idx_sT, e_seq_sT, e_isi_int_sT, e_isi_bool_sT, e_isi_str_sT, e_isi_tuple_sT, e_isi_list_sT, e_isis_sT, e_isN_sT, e_nisN_sT, e_tuple_iL, e_list_iL, e_app_iL, e_tuple_iT, e_list_iT, e_appT_iL, e_tuple_sL, e_list_sL, e_app_sL, e_tuple_sT, e_list_sT, e_appT_sL, e_tuple_stL, e_list_stL, e_app_stL, e_tuple_dMode, e_list_dMode, e_appT_stL, e_resS, e_lenS, e_idx0, e_idx1, e_setS, e_all, e_srtS, ok_step, ok_mode, ok_stL, ok_plan, ok_iL, ok_iT, ok_sL, ok_sT, cm_step, cm_mode, cm_stL, cm_plan, cm_iL, cm_iT, cm_sL, cm_sT, eq_sL, eq_iL, eqD_int, eqD_str, e_isi_int_S, e_isi_bool_S, e_isi_str_S, e_isi_tuple_S, e_isi_list_S, it1_eq, it2_eq, itN_int, frzN_int, itN_str, frzN_str, itN_tup, frzN_tup, itN_lst, frzN_lst, itN_dPlan, frzN_dPlan, itN_dMode, frzN_dMode, itN_stL, frzN_stL, itN_iL, frzN_iL, itN_iT, frzN_iT, itN_sL, frzN_sL, itN_sT, frzN_sT, itN_dStep, frzN_dStep, frz_eq, frzN_loc, res_loc, dBools_bl, dInts_int, h1, ew]
theorem lplan_ok (ns : List Int) (at_ most : Int) (ha : 0 ≤ at_) (hm : 1 ≤ most ∧ most ≤ 900) : F_u_law_plan [.scr ns, .int at_, .int most] = .ok (dPlan (lawPlan ns at_ most)) := by
  have h1 := pick_lt ns at_ (many := most) (by omega)
  have h2 := pick_lt ns (at_ + 1) (many := 3) (by omega)
  have h3 := pick_lt ns (at_ + 2) (many := 3) (by omega)
  have hm' : 0 < manyOf ns at_ most ∧ manyOf ns at_ most ≤ 1000 := by unfold manyOf; omega
  have hb : butsOf ns at_ ≤ 1000 := by unfold butsOf; omega
  have p1 := pick_ok ns at_ most ha (by omega)
  have p2 := pick_ok ns (at_ + 1) 3 (by omega) (by omega)
  have p3 := pick_ok ns (at_ + 2) 3 (by omega) (by omega)
  obtain ⟨x, y, z, w, rest, e⟩ := lplan_out ns at_ ha (.int most) hm'.1 hm'.2 hb (poolOf_pos ns at_)
  have c1 : (1 : Int) + pick ns at_ most = ((manyOf ns at_ most : Nat) : Int) := by unfold manyOf; omega
  have c2 : (1 : Int) + pick ns (at_ + 1) 3 = ((butsOf ns at_ : Nat) : Int) := by unfold butsOf; omega
  have c3 : atI [D.lst [.str "lap", .str ""], .lst [.str "go", .str "", .str "set"], .lst [.str "x", .str "lamp", .str "go", .str "", .str "abcdef"]] (pick ns (at_ + 2) 3) = some (sL (poolOf ns at_)) := by
    have := at_i ([] : List Str) (xs := pools) h3.1 h3.2
    have e : [D.lst [.str "lap", .str ""], .lst [.str "go", .str "", .str "set"], .lst [.str "x", .str "lamp", .str "go", .str "", .str "abcdef"]] = pools.map sL := rfl
    rw [e, at_map, this]
    rfl
  have n0 : ∀ n : Nat, n ≤ 10 → n ≤ sizeLine := fun n h => by have := sizeLine_big; omega
  have ek : okN 60 (dPlan (lawPlan ns at_ most)) = true := ok_plan 56 _
  have ek' : (((List.range (manyOf ns at_ most)).map (modeAt ns at_ (manyOf ns at_ most) (butsOf ns at_) (poolOf ns at_))).map dMode).all (okN 59) = true := ek
  unfold dPlan lawPlan F_u_law_plan runDef
  simp only [t_u_law_plan, res_non, res_bl, res_int, res_str, res_tup, res_lst, res_scr, res_dK, bind_ok, bind_ex, bind_no, opt_some, opt_none, v_add, v_addL, v_addT, v_addS, v_sub, v_mul, v_mulL, v_fdiv, v_mod, v_eq, v_ne, v_lt, v_le, v_gt, v_ge, v_idxL, v_idxT, v_idxS, v_inS, v_ninS, v_inL, v_ninL, v_isN_non, v_nisN_non, v_isN_bl, v_nisN_bl, v_isN_int, v_nisN_int, v_isN_str, v_nisN_str, v_isN_tup, v_nisN_tup, v_isN_lst, v_nisN_lst, v_isN_scr, v_nisN_scr, v_isN_dK, v_nisN_dK, v_isB, v_nisB, u_lenL, u_lenT, u_lenC, u_lenD, u_neg, u_all, u_any, u_sum, u_tupL, u_tupT, u_tupR, u_intB, u_isi_int_non, u_isi_int_bl, u_isi_int_int, u_isi_int_str, u_isi_int_tup, u_isi_int_lst, u_isi_int_scr, u_isi_int_dK, u_isi_bool_non, u_isi_bool_bl, u_isi_bool_int, u_isi_bool_str, u_isi_bool_tup, u_isi_bool_lst, u_isi_bool_scr, u_isi_bool_dK, u_isi_str_non, u_isi_str_bl, u_isi_str_int, u_isi_str_str, u_isi_str_tup, u_isi_str_lst, u_isi_str_scr, u_isi_str_dK, u_isi_tuple_non, u_isi_tuple_bl, u_isi_tuple_int, u_isi_tuple_str, u_isi_tuple_tup, u_isi_tuple_lst, u_isi_tuple_scr, u_isi_tuple_dK, u_isi_list_non, u_isi_list_bl, u_isi_list_int, u_isi_list_str, u_isi_list_tup, u_isi_list_lst, u_isi_list_scr, u_isi_list_dK, u_isis_lt_non, u_isis_lt_bl, u_isis_lt_int, u_isis_lt_str, u_isis_lt_tup, u_isis_lt_lst, u_isis_lt_scr, u_isis_lt_dK, w_listL, w_listT, w_listR, w_srtS, w_srt, y_seqL, y_seqT, y_rng, y_chars, s_n, s_t, s_nil, s_cons, c_F0, c_F1, c_F2, c_F3, c_F4, c_F5, c_F6, c_F7, c_F8, c_F9, c_F10, c_F11, c_G0, c_G1, c_G2, c_G3, c_G4, nilT, nil_v, nil_k, nil_g, nil_o1, nil_o2, nil_and, nil_or, nil_not, nil_ch, nil_call, kn_non, km_non, kn_bl, km_bl, kn_int, km_int, kn_str, km_str, kn_scr, km_scr, kn_tup, kn_lst, km_tup, km_lst, evS, evE, evA, evX, eqB, callP, partI, slotLoc, isLst, appL, Option.map_some, Option.map_none, Option.bind_some, List.getElem?_cons_zero, List.getElem?_cons_succ, List.map_cons, List.map_nil, List.length_cons, List.length_nil, List.set_cons_zero, List.set_cons_succ, List.cons_append, List.nil_append, List.replicate_succ, List.replicate_zero, Nat.zero_add, Nat.reduceAdd, Nat.reduceSub, Nat.reduceLT, Int.reduceLT, Int.reduceLE, Int.reduceNeg, eq_self, and_self, and_true, true_and, Nat.reduceLeDiff, if_true, Bool.false_eq_true, if_false, ite_true, ite_false, decide_true, decide_false, Bool.not_true, Bool.not_false, Bool.and_true, Bool.true_and, wipeR, List.all_cons, List.all_nil, at_n, at_0, at_1, at_2, at_l, e_res_dPlan, e_len_dPlan, e_idx_dPlan, e_seq_dPlan, e_isi_int_dPlan, e_isi_bool_dPlan, e_isi_str_dPlan, e_isi_tuple_dPlan, e_isi_list_dPlan, e_isis_dPlan, e_isN_dPlan, e_nisN_dPlan, e_res_dMode, e_len_dMode, e_idx_dMode, e_seq_dMode, e_isi_int_dMode, e_isi_bool_dMode, e_isi_str_dMode, e_isi_tuple_dMode, e_isi_list_dMode, e_isis_dMode, e_isN_dMode, e_nisN_dMode, e_res_stL, e_len_stL, e_idx_stL, e_seq_stL, e_isi_int_stL, e_isi_bool_stL, e_isi_str_stL, e_isi_tuple_stL, e_isi_list_stL, e_isis_stL, e_isN_stL, e_nisN_stL, e_res_iL, e_len_iL, e_idx_iL, e_seq_iL, e_isi_int_iL, e_isi_bool_iL, e_isi_str_iL, e_isi_tuple_iL, e_isi_list_iL, e_isis_iL, e_isN_iL, e_nisN_iL, e_res_iT, e_len_iT, e_idx_iT, e_seq_iT, e_isi_int_iT, e_isi_bool_iT, e_isi_str_iT, e_isi_tuple_iT, e_isi_list_iT, e_isis_iT, e_isN_iT, e_nisN_iT, e_res_sL, e_len_sL, e_idx_sL, e_seq_sL, e_isi_int_sL, e_isi_bool_sL, e_isi_str_sL, e_isi_tuple_sL, e_isi_list_sL, e_isis_sL, e_isN_sL, e_nisN_sL, e_res_sT, e_len_sT, e_idx_sT, e_seq_sT, e_isi_int_sT, e_isi_bool_sT, e_isi_str_sT, e_isi_tuple_sT, e_isi_list_sT, e_isis_sT, e_isN_sT, e_nisN_sT, e_tuple_iL, e_list_iL, e_app_iL, e_tuple_iT, e_list_iT, e_appT_iL, e_tuple_sL, e_list_sL, e_app_sL, e_tuple_sT, e_list_sT, e_appT_sL, e_tuple_stL, e_list_stL, e_app_stL, e_tuple_dMode, e_list_dMode, e_appT_stL, e_resS, e_lenS, e_idx0, e_idx1, e_setS, e_all, e_srtS, ok_step, ok_mode, ok_stL, ok_plan, ok_iL, ok_iT, ok_sL, ok_sT, cm_step, cm_mode, cm_stL, cm_plan, cm_iL, cm_iT, cm_sL, cm_sT, eq_sL, eq_iL, eqD_int, eqD_str, e_isi_int_S, e_isi_bool_S, e_isi_str_S, e_isi_tuple_S, e_isi_list_S, it1_eq, it2_eq, itN_int, frzN_int, itN_str, frzN_str, itN_tup, frzN_tup, itN_lst, frzN_lst, itN_dPlan, frzN_dPlan, itN_dMode, frzN_dMode, itN_stL, frzN_stL, itN_iL, frzN_iL, itN_iT, frzN_iT, itN_sL, frzN_sL, itN_sT, frzN_sT, itN_dStep, frzN_dStep, frz_eq, frzN_loc, res_loc, dBools_bl, dInts_int, E_u_law_plan_F0, p1, p2, p3, c1, c2, c3, n0 0 (by omega), n0 2 (by omega), n0 3 (by omega), n0 5 (by omega), e, ek']
/-! ### rows -/
def lawRow (ns : List Int) (at_ : Int) (B : Nat) (most : Int) : List Int := (List.range (pick ns at_ (most + 1)).toNat).map fun k : Nat => pick ns (at_ + 1 + k) B
theorem lrow_ok (ns : List Int) (at_ most : Int) {p : Plan} {B : Nat} (h : IsPlan p B) (ha : 0 ≤ at_) (hm : 0 ≤ most ∧ most ≤ 1000) : F_u_law_row [.scr ns, .int at_, dPlan p, .int most] = .ok (iL (lawRow ns at_ B most)) := by
  obtain ⟨m0, hm0, hl0⟩ := h.first
  have hb := h.b1
  have p1 := pick_ok ns at_ (most + 1) ha (by omega)
  have b1 := pick_lt ns at_ (many := most + 1) (by omega)
  have h1 : smallI (pick ns at_ (most + 1)) = true := smallI_of (by omega)
  have x1 : evX E_u_law_row t_u_law_row_x1 [some (.scr ns), some (.int at_), some (dPlan p), some (.int most), none] [] = .ok ((lawRow ns at_ B most).map D.int) [] := by
    have go : compL [4] (.n 4) (fun r S => .ok (.bl true) S) (fun r S => evE E_u_law_row (.call 0 (.cons (.v 0) (.cons (.o2 .add (.o2 .add (.v 1) (.k (.int 1))) (.v 4)) (.cons (.o1 .len (.o2 .idx (.v 2) (.k (.int 0)))) .nil)))) r S) [some (.scr ns), some (.int at_), some (dPlan p), some (.int most), none] (rangeD (pick ns at_ (most + 1))) [] [] = .ok ((lawRow ns at_ B most).map D.int) [] := by
      rw [compL_map (fun d => match d with | .int k => .int (pick ns (at_ + 1 + k) B) | _ => .non)]
      · simp [rangeD, lawRow]
      · have := sizeLine_big
        rw [rangeD_len]; omega
      · intro e he
        obtain ⟨i, hi, rfl⟩ := rangeD_mem he
        have p2 := pick_ok ns (at_ + 1 + (i : Nat)) B (by omega) (by omega)
        refine ⟨_, rfl, ?_⟩
        simp only [res_non, res_bl, res_int, res_str, res_tup, res_lst, res_scr, res_dK, bind_ok, bind_ex, bind_no, opt_some, opt_none, v_add, v_addL, v_addT, v_addS, v_sub, v_mul, v_mulL, v_fdiv, v_mod, v_eq, v_ne, v_lt, v_le, v_gt, v_ge, v_idxL, v_idxT, v_idxS, v_inS, v_ninS, v_inL, v_ninL, v_isN_non, v_nisN_non, v_isN_bl, v_nisN_bl, v_isN_int, v_nisN_int, v_isN_str, v_nisN_str, v_isN_tup, v_nisN_tup, v_isN_lst, v_nisN_lst, v_isN_scr, v_nisN_scr, v_isN_dK, v_nisN_dK, v_isB, v_nisB, u_lenL, u_lenT, u_lenC, u_lenD, u_neg, u_all, u_any, u_sum, u_tupL, u_tupT, u_tupR, u_intB, u_isi_int_non, u_isi_int_bl, u_isi_int_int, u_isi_int_str, u_isi_int_tup, u_isi_int_lst, u_isi_int_scr, u_isi_int_dK, u_isi_bool_non, u_isi_bool_bl, u_isi_bool_int, u_isi_bool_str, u_isi_bool_tup, u_isi_bool_lst, u_isi_bool_scr, u_isi_bool_dK, u_isi_str_non, u_isi_str_bl, u_isi_str_int, u_isi_str_str, u_isi_str_tup, u_isi_str_lst, u_isi_str_scr, u_isi_str_dK, u_isi_tuple_non, u_isi_tuple_bl, u_isi_tuple_int, u_isi_tuple_str, u_isi_tuple_tup, u_isi_tuple_lst, u_isi_tuple_scr, u_isi_tuple_dK, u_isi_list_non, u_isi_list_bl, u_isi_list_int, u_isi_list_str, u_isi_list_tup, u_isi_list_lst, u_isi_list_scr, u_isi_list_dK, u_isis_lt_non, u_isis_lt_bl, u_isis_lt_int, u_isis_lt_str, u_isis_lt_tup, u_isis_lt_lst, u_isis_lt_scr, u_isis_lt_dK, w_listL, w_listT, w_listR, w_srtS, w_srt, y_seqL, y_seqT, y_rng, y_chars, s_n, s_t, s_nil, s_cons, c_F0, c_F1, c_F2, c_F3, c_F4, c_F5, c_F6, c_F7, c_F8, c_F9, c_F10, c_F11, c_G0, c_G1, c_G2, c_G3, c_G4, nilT, nil_v, nil_k, nil_g, nil_o1, nil_o2, nil_and, nil_or, nil_not, nil_ch, nil_call, kn_non, km_non, kn_bl, km_bl, kn_int, km_int, kn_str, km_str, kn_scr, km_scr, kn_tup, kn_lst, km_tup, km_lst, evS, evE, evA, evX, eqB, callP, partI, slotLoc, isLst, appL, Option.map_some, Option.map_none, Option.bind_some, List.getElem?_cons_zero, List.getElem?_cons_succ, List.map_cons, List.map_nil, List.length_cons, List.length_nil, List.set_cons_zero, List.set_cons_succ, List.cons_append, List.nil_append, List.replicate_succ, List.replicate_zero, Nat.zero_add, Nat.reduceAdd, Nat.reduceSub, Nat.reduceLT, Int.reduceLT, Int.reduceLE, Int.reduceNeg, eq_self, and_self, and_true, true_and, Nat.reduceLeDiff, if_true, Bool.false_eq_true, if_false, ite_true, ite_false, decide_true, decide_false, Bool.not_true, Bool.not_false, Bool.and_true, Bool.true_and, wipeR, List.all_cons, List.all_nil, at_n, at_0, at_1, at_2, at_l, e_res_dPlan, e_len_dPlan, e_idx_dPlan, e_seq_dPlan, e_isi_int_dPlan, e_isi_bool_dPlan, e_isi_str_dPlan, e_isi_tuple_dPlan, e_isi_list_dPlan, e_isis_dPlan, e_isN_dPlan, e_nisN_dPlan, e_res_dMode, e_len_dMode, e_idx_dMode, e_seq_dMode, e_isi_int_dMode, e_isi_bool_dMode, e_isi_str_dMode, e_isi_tuple_dMode, e_isi_list_dMode, e_isis_dMode, e_isN_dMode, e_nisN_dMode, e_res_stL, e_len_stL, e_idx_stL, e_seq_stL, e_isi_int_stL, e_isi_bool_stL, e_isi_str_stL, e_isi_tuple_stL, e_isi_list_stL, e_isis_stL, e_isN_stL, e_nisN_stL, e_res_iL, e_len_iL, e_idx_iL, e_seq_iL, e_isi_int_iL, e_isi_bool_iL, e_isi_str_iL, e_isi_tuple_iL, e_isi_list_iL, e_isis_iL, e_isN_iL, e_nisN_iL, e_res_iT, e_len_iT, e_idx_iT, e_seq_iT, e_isi_int_iT, e_isi_bool_iT, e_isi_str_iT, e_isi_tuple_iT, e_isi_list_iT, e_isis_iT, e_isN_iT, e_nisN_iT, e_res_sL, e_len_sL, e_idx_sL, e_seq_sL, e_isi_int_sL, e_isi_bool_sL, e_isi_str_sL, e_isi_tuple_sL, e_isi_list_sL, e_isis_sL, e_isN_sL, e_nisN_sL, e_res_sT, e_len_sT, e_idx_sT, e_seq_sT, e_isi_int_sT, e_isi_bool_sT, e_isi_str_sT, e_isi_tuple_sT, e_isi_list_sT, e_isis_sT, e_isN_sT, e_nisN_sT, e_tuple_iL, e_list_iL, e_app_iL, e_tuple_iT, e_list_iT, e_appT_iL, e_tuple_sL, e_list_sL, e_app_sL, e_tuple_sT, e_list_sT, e_appT_sL, e_tuple_stL, e_list_stL, e_app_stL, e_tuple_dMode, e_list_dMode, e_appT_stL, e_resS, e_lenS, e_idx0, e_idx1, e_setS, e_all, e_srtS, ok_step, ok_mode, ok_stL, ok_plan, ok_iL, ok_iT, ok_sL, ok_sT, cm_step, cm_mode, cm_stL, cm_plan, cm_iL, cm_iT, cm_sL, cm_sT, eq_sL, eq_iL, eqD_int, eqD_str, e_isi_int_S, e_isi_bool_S, e_isi_str_S, e_isi_tuple_S, e_isi_list_S, it1_eq, it2_eq, itN_int, frzN_int, itN_str, frzN_str, itN_tup, frzN_tup, itN_lst, frzN_lst, itN_dPlan, frzN_dPlan, itN_dMode, frzN_dMode, itN_stL, frzN_stL, itN_iL, frzN_iL, itN_iT, frzN_iT, itN_sL, frzN_sL, itN_sT, frzN_sT, itN_dStep, frzN_dStep, frz_eq, frzN_loc, res_loc, dBools_bl, dInts_int, E_u_law_row_F0, hm0, hl0, p2]
    simp only [t_u_law_row_x1, res_non, res_bl, res_int, res_str, res_tup, res_lst, res_scr, res_dK, bind_ok, bind_ex, bind_no, opt_some, opt_none, v_add, v_addL, v_addT, v_addS, v_sub, v_mul, v_mulL, v_fdiv, v_mod, v_eq, v_ne, v_lt, v_le, v_gt, v_ge, v_idxL, v_idxT, v_idxS, v_inS, v_ninS, v_inL, v_ninL, v_isN_non, v_nisN_non, v_isN_bl, v_nisN_bl, v_isN_int, v_nisN_int, v_isN_str, v_nisN_str, v_isN_tup, v_nisN_tup, v_isN_lst, v_nisN_lst, v_isN_scr, v_nisN_scr, v_isN_dK, v_nisN_dK, v_isB, v_nisB, u_lenL, u_lenT, u_lenC, u_lenD, u_neg, u_all, u_any, u_sum, u_tupL, u_tupT, u_tupR, u_intB, u_isi_int_non, u_isi_int_bl, u_isi_int_int, u_isi_int_str, u_isi_int_tup, u_isi_int_lst, u_isi_int_scr, u_isi_int_dK, u_isi_bool_non, u_isi_bool_bl, u_isi_bool_int, u_isi_bool_str, u_isi_bool_tup, u_isi_bool_lst, u_isi_bool_scr, u_isi_bool_dK, u_isi_str_non, u_isi_str_bl, u_isi_str_int, u_isi_str_str, u_isi_str_tup, u_isi_str_lst, u_isi_str_scr, u_isi_str_dK, u_isi_tuple_non, u_isi_tuple_bl, u_isi_tuple_int, u_isi_tuple_str, u_isi_tuple_tup, u_isi_tuple_lst, u_isi_tuple_scr, u_isi_tuple_dK, u_isi_list_non, u_isi_list_bl, u_isi_list_int, u_isi_list_str, u_isi_list_tup, u_isi_list_lst, u_isi_list_scr, u_isi_list_dK, u_isis_lt_non, u_isis_lt_bl, u_isis_lt_int, u_isis_lt_str, u_isis_lt_tup, u_isis_lt_lst, u_isis_lt_scr, u_isis_lt_dK, w_listL, w_listT, w_listR, w_srtS, w_srt, y_seqL, y_seqT, y_rng, y_chars, s_n, s_t, s_nil, s_cons, c_F0, c_F1, c_F2, c_F3, c_F4, c_F5, c_F6, c_F7, c_F8, c_F9, c_F10, c_F11, c_G0, c_G1, c_G2, c_G3, c_G4, nilT, nil_v, nil_k, nil_g, nil_o1, nil_o2, nil_and, nil_or, nil_not, nil_ch, nil_call, kn_non, km_non, kn_bl, km_bl, kn_int, km_int, kn_str, km_str, kn_scr, km_scr, kn_tup, kn_lst, km_tup, km_lst, evS, evE, evA, evX, eqB, callP, partI, slotLoc, isLst, appL, Option.map_some, Option.map_none, Option.bind_some, List.getElem?_cons_zero, List.getElem?_cons_succ, List.map_cons, List.map_nil, List.length_cons, List.length_nil, List.set_cons_zero, List.set_cons_succ, List.cons_append, List.nil_append, List.replicate_succ, List.replicate_zero, Nat.zero_add, Nat.reduceAdd, Nat.reduceSub, Nat.reduceLT, Int.reduceLT, Int.reduceLE, Int.reduceNeg, eq_self, and_self, and_true, true_and, Nat.reduceLeDiff, if_true, Bool.false_eq_true, if_false, ite_true, ite_false, decide_true, decide_false, Bool.not_true, Bool.not_false, Bool.and_true, Bool.true_and, wipeR, List.all_cons, List.all_nil, at_n, at_0, at_1, at_2, at_l, e_res_dPlan, e_len_dPlan, e_idx_dPlan, e_seq_dPlan, e_isi_int_dPlan, e_isi_bool_dPlan, e_isi_str_dPlan, e_isi_tuple_dPlan, e_isi_list_dPlan, e_isis_dPlan, e_isN_dPlan, e_nisN_dPlan, e_res_dMode, e_len_dMode, e_idx_dMode, e_seq_dMode, e_isi_int_dMode, e_isi_bool_dMode, e_isi_str_dMode, e_isi_tuple_dMode, e_isi_list_dMode, e_isis_dMode, e_isN_dMode, e_nisN_dMode, e_res_stL, e_len_stL, e_idx_stL, e_seq_stL, e_isi_int_stL, e_isi_bool_stL, e_isi_str_stL, e_isi_tuple_stL, e_isi_list_stL, e_isis_stL, e_isN_stL, e_nisN_stL, e_res_iL, e_len_iL, e_idx_iL, e_seq_iL, e_isi_int_iL, e_isi_bool_iL, e_isi_str_iL, e_isi_tuple_iL, e_isi_list_iL, e_isis_iL, e_isN_iL, e_nisN_iL, e_res_iT, e_len_iT, e_idx_iT, e_seq_iT, e_isi_int_iT, e_isi_bool_iT, e_isi_str_iT, e_isi_tuple_iT, e_isi_list_iT, e_isis_iT, e_isN_iT, e_nisN_iT, e_res_sL, e_len_sL, e_idx_sL, e_seq_sL, e_isi_int_sL, e_isi_bool_sL, e_isi_str_sL, e_isi_tuple_sL, e_isi_list_sL, e_isis_sL, e_isN_sL, e_nisN_sL, e_res_sT, e_len_sT, e_idx_sT, e_seq_sT, e_isi_int_sT, e_isi_bool_sT, e_isi_str_sT, e_isi_tuple_sT, e_isi_list_sT, e_isis_sT, e_isN_sT, e_nisN_sT, e_tuple_iL, e_list_iL, e_app_iL, e_tuple_iT, e_list_iT, e_appT_iL, e_tuple_sL, e_list_sL, e_app_sL, e_tuple_sT, e_list_sT, e_appT_sL, e_tuple_stL, e_list_stL, e_app_stL, e_tuple_dMode, e_list_dMode, e_appT_stL, e_resS, e_lenS, e_idx0, e_idx1, e_setS, e_all, e_srtS, ok_step, ok_mode, ok_stL, ok_plan, ok_iL, ok_iT, ok_sL, ok_sT, cm_step, cm_mode, cm_stL, cm_plan, cm_iL, cm_iT, cm_sL, cm_sT, eq_sL, eq_iL, eqD_int, eqD_str, e_isi_int_S, e_isi_bool_S, e_isi_str_S, e_isi_tuple_S, e_isi_list_S, it1_eq, it2_eq, itN_int, frzN_int, itN_str, frzN_str, itN_tup, frzN_tup, itN_lst, frzN_lst, itN_dPlan, frzN_dPlan, itN_dMode, frzN_dMode, itN_stL, frzN_stL, itN_iL, frzN_iL, itN_iT, frzN_iT, itN_sL, frzN_sL, itN_sT, frzN_sT, itN_dStep, frzN_dStep, frz_eq, frzN_loc, res_loc, dBools_bl, dInts_int, E_u_law_row_F0, p1, h1] at go ⊢
    exact go
  have ek : ((lawRow ns at_ B most).map D.int).all (okN 59) = true := ok_iL 58 _
  unfold iL F_u_law_row runDef
  simp only [t_u_law_row, res_non, res_bl, res_int, res_str, res_tup, res_lst, res_scr, res_dK, bind_ok, bind_ex, bind_no, opt_some, opt_none, v_add, v_addL, v_addT, v_addS, v_sub, v_mul, v_mulL, v_fdiv, v_mod, v_eq, v_ne, v_lt, v_le, v_gt, v_ge, v_idxL, v_idxT, v_idxS, v_inS, v_ninS, v_inL, v_ninL, v_isN_non, v_nisN_non, v_isN_bl, v_nisN_bl, v_isN_int, v_nisN_int, v_isN_str, v_nisN_str, v_isN_tup, v_nisN_tup, v_isN_lst, v_nisN_lst, v_isN_scr, v_nisN_scr, v_isN_dK, v_nisN_dK, v_isB, v_nisB, u_lenL, u_lenT, u_lenC, u_lenD, u_neg, u_all, u_any, u_sum, u_tupL, u_tupT, u_tupR, u_intB, u_isi_int_non, u_isi_int_bl, u_isi_int_int, u_isi_int_str, u_isi_int_tup, u_isi_int_lst, u_isi_int_scr, u_isi_int_dK, u_isi_bool_non, u_isi_bool_bl, u_isi_bool_int, u_isi_bool_str, u_isi_bool_tup, u_isi_bool_lst, u_isi_bool_scr, u_isi_bool_dK, u_isi_str_non, u_isi_str_bl, u_isi_str_int, u_isi_str_str, u_isi_str_tup, u_isi_str_lst, u_isi_str_scr, u_isi_str_dK, u_isi_tuple_non, u_isi_tuple_bl, u_isi_tuple_int, u_isi_tuple_str, u_isi_tuple_tup, u_isi_tuple_lst, u_isi_tuple_scr, u_isi_tuple_dK, u_isi_list_non, u_isi_list_bl, u_isi_list_int, u_isi_list_str, u_isi_list_tup, u_isi_list_lst, u_isi_list_scr, u_isi_list_dK, u_isis_lt_non, u_isis_lt_bl, u_isis_lt_int, u_isis_lt_str, u_isis_lt_tup, u_isis_lt_lst, u_isis_lt_scr, u_isis_lt_dK, w_listL, w_listT, w_listR, w_srtS, w_srt, y_seqL, y_seqT, y_rng, y_chars, s_n, s_t, s_nil, s_cons, c_F0, c_F1, c_F2, c_F3, c_F4, c_F5, c_F6, c_F7, c_F8, c_F9, c_F10, c_F11, c_G0, c_G1, c_G2, c_G3, c_G4, nilT, nil_v, nil_k, nil_g, nil_o1, nil_o2, nil_and, nil_or, nil_not, nil_ch, nil_call, kn_non, km_non, kn_bl, km_bl, kn_int, km_int, kn_str, km_str, kn_scr, km_scr, kn_tup, kn_lst, km_tup, km_lst, evS, evE, evA, evX, eqB, callP, partI, slotLoc, isLst, appL, Option.map_some, Option.map_none, Option.bind_some, List.getElem?_cons_zero, List.getElem?_cons_succ, List.map_cons, List.map_nil, List.length_cons, List.length_nil, List.set_cons_zero, List.set_cons_succ, List.cons_append, List.nil_append, List.replicate_succ, List.replicate_zero, Nat.zero_add, Nat.reduceAdd, Nat.reduceSub, Nat.reduceLT, Int.reduceLT, Int.reduceLE, Int.reduceNeg, eq_self, and_self, and_true, true_and, Nat.reduceLeDiff, if_true, Bool.false_eq_true, if_false, ite_true, ite_false, decide_true, decide_false, Bool.not_true, Bool.not_false, Bool.and_true, Bool.true_and, wipeR, List.all_cons, List.all_nil, at_n, at_0, at_1, at_2, at_l, e_res_dPlan, e_len_dPlan, e_idx_dPlan, e_seq_dPlan, e_isi_int_dPlan, e_isi_bool_dPlan, e_isi_str_dPlan, e_isi_tuple_dPlan, e_isi_list_dPlan, e_isis_dPlan, e_isN_dPlan, e_nisN_dPlan, e_res_dMode, e_len_dMode, e_idx_dMode, e_seq_dMode, e_isi_int_dMode, e_isi_bool_dMode, e_isi_str_dMode, e_isi_tuple_dMode, e_isi_list_dMode, e_isis_dMode, e_isN_dMode, e_nisN_dMode, e_res_stL, e_len_stL, e_idx_stL, e_seq_stL, e_isi_int_stL, e_isi_bool_stL, e_isi_str_stL, e_isi_tuple_stL, e_isi_list_stL, e_isis_stL, e_isN_stL, e_nisN_stL, e_res_iL, e_len_iL, e_idx_iL, e_seq_iL, e_isi_int_iL, e_isi_bool_iL, e_isi_str_iL, e_isi_tuple_iL, e_isi_list_iL, e_isis_iL, e_isN_iL, e_nisN_iL, e_res_iT, e_len_iT, e_idx_iT, e_seq_iT, e_isi_int_iT, e_isi_bool_iT, e_isi_str_iT, e_isi_tuple_iT, e_isi_list_iT, e_isis_iT, e_isN_iT, e_nisN_iT, e_res_sL, e_len_sL, e_idx_sL, e_seq_sL, e_isi_int_sL, e_isi_bool_sL, e_isi_str_sL, e_isi_tuple_sL, e_isi_list_sL, e_isis_sL, e_isN_sL, e_nisN_sL, e_res_sT, e_len_sT, e_idx_sT, e_seq_sT, e_isi_int_sT, e_isi_bool_sT, e_isi_str_sT, e_isi_tuple_sT, e_isi_list_sT, e_isis_sT, e_isN_sT, e_nisN_sT, e_tuple_iL, e_list_iL, e_app_iL, e_tuple_iT, e_list_iT, e_appT_iL, e_tuple_sL, e_list_sL, e_app_sL, e_tuple_sT, e_list_sT, e_appT_sL, e_tuple_stL, e_list_stL, e_app_stL, e_tuple_dMode, e_list_dMode, e_appT_stL, e_resS, e_lenS, e_idx0, e_idx1, e_setS, e_all, e_srtS, ok_step, ok_mode, ok_stL, ok_plan, ok_iL, ok_iT, ok_sL, ok_sT, cm_step, cm_mode, cm_stL, cm_plan, cm_iL, cm_iT, cm_sL, cm_sT, eq_sL, eq_iL, eqD_int, eqD_str, e_isi_int_S, e_isi_bool_S, e_isi_str_S, e_isi_tuple_S, e_isi_list_S, it1_eq, it2_eq, itN_int, frzN_int, itN_str, frzN_str, itN_tup, frzN_tup, itN_lst, frzN_lst, itN_dPlan, frzN_dPlan, itN_dMode, frzN_dMode, itN_stL, frzN_stL, itN_iL, frzN_iL, itN_iT, frzN_iT, itN_sL, frzN_sL, itN_sT, frzN_sT, itN_dStep, frzN_dStep, frz_eq, frzN_loc, res_loc, dBools_bl, dInts_int, x1, ek]
theorem lawRow_in (ns : List Int) (at_ : Int) {B : Nat} (hB : 1 ≤ B) (most : Int) : inRow B (lawRow ns at_ B most) := by
  intro b hb
  obtain ⟨k, _, rfl⟩ := List.mem_map.mp hb
  exact pick_lt _ _ (by omega)
theorem lawRow_len (ns : List Int) (at_ : Int) (B : Nat) {most : Int} (h : 0 ≤ most) : (lawRow ns at_ B most).length ≤ most.toNat := by
  have := pick_lt ns at_ (many := most + 1) (by omega)
  simp only [lawRow, List.length_map, List.length_range]
  omega
end Bp

namespace Bp
open PySem L2
/-! ### the law's own walk -/
def goalsOf (l : List Step) : List Int := l.map (·.1)
theorem walk_loop {p : Plan} {B : Nat} (h : IsPlan p B) {d e : D} : ∀ (row : List Int) (m : Int) (pre : List Int) (acc : List Str) (x : Option D), inRow B row → 0 ≤ m ∧ m < p.length → pre.length + acc.length + 2 * row.length ≤ 20000 →
    ∃ x', forL (.n 3) (fun r S => evS E_u_law_walk t_u_law_walk_b1 r S) (row.map D.int) [some (dPlan p), some d, some e, x, some (.loc 0), some (.loc 1)] [.lst ((pre ++ [m]).map D.int), .lst (acc.map D.str)] = .nx [some (dPlan p), some d, some e, x', some (.loc 0), some (.loc 1)] [.lst ((pre ++ m :: goalsOf (stepsOf p m row)).map D.int), .lst ((acc ++ deedsOf (stepsOf p m row)).map D.str)]
  | [], m, pre, acc, x, _, _, _ => ⟨x, by simp [forL, stepsOf, goalsOf, deedsOf]⟩
  | b :: bs, m, pre, acc, x, hr, hm, hl => by
    obtain ⟨e1, e2, e3, e4, _⟩ := h.at hm (hr b (by simp))
    obtain ⟨x', ih⟩ := walk_loop h (d := d) (e := e) bs (gets p m b).1 (pre ++ [m]) (acc ++ [(gets p m b).2]) (some (.int b)) (fun b hb => hr b (List.mem_cons_of_mem _ hb)) ⟨e3, e4⟩ (by simp only [List.length_append, List.length_cons, List.length_nil] at hl ⊢; omega)
    refine ⟨x', ?_⟩
    have hs1 : acc.length < sizeLine := by have := sizeLine_big; simp only [List.length_cons] at hl; omega
    have hs2 : (pre ++ [m]).length < sizeLine := by have := sizeLine_big; simp only [List.length_append, List.length_cons, List.length_nil] at hl ⊢; omega
    have hla : ((pre ++ [m]).map D.int).getLast? = some (.int m) := by simp
    have body : evS E_u_law_walk t_u_law_walk_b1 [some (dPlan p), some d, some e, some (.int b), some (.loc 0), some (.loc 1)] [.lst ((pre ++ [m]).map D.int), .lst (acc.map D.str)] = .nx [some (dPlan p), some d, some e, some (.int b), some (.loc 0), some (.loc 1)] [.lst ((pre ++ [m] ++ [(gets p m b).1]).map D.int), .lst ((acc ++ [(gets p m b).2]).map D.str)] := by
      rw [List.map_append (l₁ := pre ++ [m]), List.map_append (l₁ := acc)]
      generalize hA : (pre ++ [m]).map D.int = A at hla ⊢
      have hsA : A.length < sizeLine := by rw [← hA, List.length_map]; exact hs2
      simp only [t_u_law_walk_b1, res_non, res_bl, res_int, res_str, res_tup, res_lst, res_scr, res_dK, bind_ok, bind_ex, bind_no, opt_some, opt_none, v_add, v_addL, v_addT, v_addS, v_sub, v_mul, v_mulL, v_fdiv, v_mod, v_eq, v_ne, v_lt, v_le, v_gt, v_ge, v_idxL, v_idxT, v_idxS, v_inS, v_ninS, v_inL, v_ninL, v_isN_non, v_nisN_non, v_isN_bl, v_nisN_bl, v_isN_int, v_nisN_int, v_isN_str, v_nisN_str, v_isN_tup, v_nisN_tup, v_isN_lst, v_nisN_lst, v_isN_scr, v_nisN_scr, v_isN_dK, v_nisN_dK, v_isB, v_nisB, u_lenL, u_lenT, u_lenC, u_lenD, u_neg, u_all, u_any, u_sum, u_tupL, u_tupT, u_tupR, u_intB, u_isi_int_non, u_isi_int_bl, u_isi_int_int, u_isi_int_str, u_isi_int_tup, u_isi_int_lst, u_isi_int_scr, u_isi_int_dK, u_isi_bool_non, u_isi_bool_bl, u_isi_bool_int, u_isi_bool_str, u_isi_bool_tup, u_isi_bool_lst, u_isi_bool_scr, u_isi_bool_dK, u_isi_str_non, u_isi_str_bl, u_isi_str_int, u_isi_str_str, u_isi_str_tup, u_isi_str_lst, u_isi_str_scr, u_isi_str_dK, u_isi_tuple_non, u_isi_tuple_bl, u_isi_tuple_int, u_isi_tuple_str, u_isi_tuple_tup, u_isi_tuple_lst, u_isi_tuple_scr, u_isi_tuple_dK, u_isi_list_non, u_isi_list_bl, u_isi_list_int, u_isi_list_str, u_isi_list_tup, u_isi_list_lst, u_isi_list_scr, u_isi_list_dK, u_isis_lt_non, u_isis_lt_bl, u_isis_lt_int, u_isis_lt_str, u_isis_lt_tup, u_isis_lt_lst, u_isis_lt_scr, u_isis_lt_dK, w_listL, w_listT, w_listR, w_srtS, w_srt, y_seqL, y_seqT, y_rng, y_chars, s_n, s_t, s_nil, s_cons, c_F0, c_F1, c_F2, c_F3, c_F4, c_F5, c_F6, c_F7, c_F8, c_F9, c_F10, c_F11, c_G0, c_G1, c_G2, c_G3, c_G4, nilT, nil_v, nil_k, nil_g, nil_o1, nil_o2, nil_and, nil_or, nil_not, nil_ch, nil_call, kn_non, km_non, kn_bl, km_bl, kn_int, km_int, kn_str, km_str, kn_scr, km_scr, kn_tup, kn_lst, km_tup, km_lst, evS, evE, evA, evX, eqB, callP, partI, slotLoc, isLst, appL, Option.map_some, Option.map_none, Option.bind_some, List.getElem?_cons_zero, List.getElem?_cons_succ, List.map_cons, List.map_nil, List.length_cons, List.length_nil, List.set_cons_zero, List.set_cons_succ, List.cons_append, List.nil_append, List.replicate_succ, List.replicate_zero, Nat.zero_add, Nat.reduceAdd, Nat.reduceSub, Nat.reduceLT, Int.reduceLT, Int.reduceLE, Int.reduceNeg, eq_self, and_self, and_true, true_and, Nat.reduceLeDiff, if_true, Bool.false_eq_true, if_false, ite_true, ite_false, decide_true, decide_false, Bool.not_true, Bool.not_false, Bool.and_true, Bool.true_and, wipeR, List.all_cons, List.all_nil, at_n, at_0, at_1, at_2, at_l, e_res_dPlan, e_len_dPlan, e_idx_dPlan, e_seq_dPlan, e_isi_int_dPlan, e_isi_bool_dPlan, e_isi_str_dPlan, e_isi_tuple_dPlan, e_isi_list_dPlan, e_isis_dPlan, e_isN_dPlan, e_nisN_dPlan, e_res_dMode, e_len_dMode, e_idx_dMode, e_seq_dMode, e_isi_int_dMode, e_isi_bool_dMode, e_isi_str_dMode, e_isi_tuple_dMode, e_isi_list_dMode, e_isis_dMode, e_isN_dMode, e_nisN_dMode, e_res_stL, e_len_stL, e_idx_stL, e_seq_stL, e_isi_int_stL, e_isi_bool_stL, e_isi_str_stL, e_isi_tuple_stL, e_isi_list_stL, e_isis_stL, e_isN_stL, e_nisN_stL, e_res_iL, e_len_iL, e_idx_iL, e_seq_iL, e_isi_int_iL, e_isi_bool_iL, e_isi_str_iL, e_isi_tuple_iL, e_isi_list_iL, e_isis_iL, e_isN_iL, e_nisN_iL, e_res_iT, e_len_iT, e_idx_iT, e_seq_iT, e_isi_int_iT, e_isi_bool_iT, e_isi_str_iT, e_isi_tuple_iT, e_isi_list_iT, e_isis_iT, e_isN_iT, e_nisN_iT, e_res_sL, e_len_sL, e_idx_sL, e_seq_sL, e_isi_int_sL, e_isi_bool_sL, e_isi_str_sL, e_isi_tuple_sL, e_isi_list_sL, e_isis_sL, e_isN_sL, e_nisN_sL, e_res_sT, e_len_sT, e_idx_sT, e_seq_sT, e_isi_int_sT, e_isi_bool_sT, e_isi_str_sT, e_isi_tuple_sT, e_isi_list_sT, e_isis_sT, e_isN_sT, e_nisN_sT, e_tuple_iL, e_list_iL, e_app_iL, e_tuple_iT, e_list_iT, e_appT_iL, e_tuple_sL, e_list_sL, e_app_sL, e_tuple_sT, e_list_sT, e_appT_sL, e_tuple_stL, e_list_stL, e_app_stL, e_tuple_dMode, e_list_dMode, e_appT_stL, e_resS, e_lenS, e_idx0, e_idx1, e_setS, e_all, e_srtS, ok_step, ok_mode, ok_stL, ok_plan, ok_iL, ok_iT, ok_sL, ok_sT, cm_step, cm_mode, cm_stL, cm_plan, cm_iL, cm_iT, cm_sL, cm_sT, eq_sL, eq_iL, eqD_int, eqD_str, e_isi_int_S, e_isi_bool_S, e_isi_str_S, e_isi_tuple_S, e_isi_list_S, it1_eq, it2_eq, itN_int, frzN_int, itN_str, frzN_str, itN_tup, frzN_tup, itN_lst, frzN_lst, itN_dPlan, frzN_dPlan, itN_dMode, frzN_dMode, itN_stL, frzN_stL, itN_iL, frzN_iL, itN_iT, frzN_iT, itN_sL, frzN_sL, itN_sT, frzN_sT, itN_dStep, frzN_dStep, frz_eq, frzN_loc, res_loc, dBools_bl, dInts_int, e1, e2, hla, List.length_map, hs1, hsA]
    rw [List.map_cons]
    unfold forL
    simp only [s_n, List.length_cons, List.length_nil, Nat.reduceLT, Nat.reduceAdd, if_true, List.set_cons_zero, List.set_cons_succ, body]
    rw [ih]
    simp only [stepsOf, goalsOf, deedsOf, List.map_cons, List.append_assoc, List.cons_append, List.nil_append]
theorem walk_ok {p : Plan} {B : Nat} (h : IsPlan p B) {row : List Int} {m : Int} (hm : 0 ≤ m ∧ m < p.length) (hr : inRow B row) (hl : row.length ≤ 5000) : F_u_law_walk [dPlan p, .int m, iL row] = .ok (.tup [iL (m :: goalsOf (stepsOf p m row)), sL (deedsOf (stepsOf p m row))]) := by
  obtain ⟨x', e⟩ := walk_loop h (d := .int m) (e := iL row) row m [] [] none hr hm (by simp only [List.length_nil]; omega)
  rw [List.nil_append, List.nil_append, List.nil_append] at e
  have n0 : ∀ n : Nat, n ≤ 10 → n ≤ sizeLine := fun n h => by have := sizeLine_big; omega
  have k1 : ((m :: goalsOf (stepsOf p m row)).map D.int).all (okN 58) = true := all_map_true (fun _ => rfl) _
  have k2 : ((deedsOf (stepsOf p m row)).map D.str).all (okN 58) = true := all_map_true (fun _ => rfl) _
  have kk : ∀ a b : List D, a.all (okN 58) = true → b.all (okN 58) = true → okN 60 (.tup [.lst a, .lst b]) = true := fun a b ha hb => by
    show (a.all (okN 58) && (b.all (okN 58) && true)) = true
    rw [ha, hb]; rfl
  have k3 := kk _ _ k1 k2
  rw [List.map_cons, List.map_nil, List.map_nil] at e
  show F_u_law_walk [dPlan p, .int m, iL row] = .ok (.tup [.lst ((m :: goalsOf (stepsOf p m row)).map D.int), .lst ((deedsOf (stepsOf p m row)).map D.str)])
  generalize (m :: goalsOf (stepsOf p m row)).map D.int = A at e k3 ⊢
  generalize (deedsOf (stepsOf p m row)).map D.str = C at e k3 ⊢
  have k4 : ([D.lst A, D.lst C]).all (okN 59) = true := k3
  unfold F_u_law_walk runDef
  simp only [t_u_law_walk, t_u_law_walk_f1, it1_eq, itN_iL, e_seq_iL, itN_lst, y_seqL, bind_ok, opt_some, evS, evE, evA, evX, frz_eq, frzN_loc, List.map_cons, List.map_nil, List.length_cons, List.length_nil, List.cons_append, List.nil_append, List.replicate_succ, List.replicate_zero, Nat.reduceAdd, Nat.reduceSub, Nat.reduceLT, Nat.zero_add, if_true, List.getElem?_cons_zero, List.getElem?_cons_succ, List.set_cons_zero, List.set_cons_succ, n0 0 (by omega), n0 1 (by omega), n0 2 (by omega), and_self, e, kn_tup, k4]
theorem stepsOf_deeds {p : Plan} {B : Nat} (h : IsPlan p B) : ∀ (row : List Int) (m : Int), inRow B row → 0 ≤ m ∧ m < p.length → ∀ x ∈ deedsOf (stepsOf p m row), okDeed x = true
  | [], m, _, _, x, hx => by cases hx
  | b :: bs, m, hr, hm, x, hx => by
    obtain ⟨_, _, e3, e4, e5⟩ := h.at hm (hr b (by simp))
    rcases List.mem_cons.mp hx with rfl | hx
    · exact e5
    · exact stepsOf_deeds h bs _ (fun b hb => hr b (List.mem_cons_of_mem _ hb)) ⟨e3, e4⟩ x hx
end Bp

namespace Bp
open PySem L2
/-! ### what is no plan -/
structure NoPl (d : D) : Prop where
  is : F_is_plan [d] = .ok (.bl false)
  ok : okN 60 d = true
  res : ∀ S, res S d = d
  frz : ∀ S, frzN d S = .ok d S
theorem noPl_lst (xs : List D) (h : okN 60 (.lst xs) = true) : NoPl (.lst xs) := by
  refine ⟨?_, h, fun _ => rfl, fun _ => rfl⟩
  unfold F_is_plan runDef
  simp only [t_is_plan, res_non, res_bl, res_int, res_str, res_tup, res_lst, res_scr, res_dK, bind_ok, bind_ex, bind_no, opt_some, opt_none, v_add, v_addL, v_addT, v_addS, v_sub, v_mul, v_mulL, v_fdiv, v_mod, v_eq, v_ne, v_lt, v_le, v_gt, v_ge, v_idxL, v_idxT, v_idxS, v_inS, v_ninS, v_inL, v_ninL, v_isN_non, v_nisN_non, v_isN_bl, v_nisN_bl, v_isN_int, v_nisN_int, v_isN_str, v_nisN_str, v_isN_tup, v_nisN_tup, v_isN_lst, v_nisN_lst, v_isN_scr, v_nisN_scr, v_isN_dK, v_nisN_dK, v_isB, v_nisB, u_lenL, u_lenT, u_lenC, u_lenD, u_neg, u_all, u_any, u_sum, u_tupL, u_tupT, u_tupR, u_intB, u_isi_int_non, u_isi_int_bl, u_isi_int_int, u_isi_int_str, u_isi_int_tup, u_isi_int_lst, u_isi_int_scr, u_isi_int_dK, u_isi_bool_non, u_isi_bool_bl, u_isi_bool_int, u_isi_bool_str, u_isi_bool_tup, u_isi_bool_lst, u_isi_bool_scr, u_isi_bool_dK, u_isi_str_non, u_isi_str_bl, u_isi_str_int, u_isi_str_str, u_isi_str_tup, u_isi_str_lst, u_isi_str_scr, u_isi_str_dK, u_isi_tuple_non, u_isi_tuple_bl, u_isi_tuple_int, u_isi_tuple_str, u_isi_tuple_tup, u_isi_tuple_lst, u_isi_tuple_scr, u_isi_tuple_dK, u_isi_list_non, u_isi_list_bl, u_isi_list_int, u_isi_list_str, u_isi_list_tup, u_isi_list_lst, u_isi_list_scr, u_isi_list_dK, u_isis_lt_non, u_isis_lt_bl, u_isis_lt_int, u_isis_lt_str, u_isis_lt_tup, u_isis_lt_lst, u_isis_lt_scr, u_isis_lt_dK, w_listL, w_listT, w_listR, w_srtS, w_srt, y_seqL, y_seqT, y_rng, y_chars, s_n, s_t, s_nil, s_cons, c_F0, c_F1, c_F2, c_F3, c_F4, c_F5, c_F6, c_F7, c_F8, c_F9, c_F10, c_F11, c_G0, c_G1, c_G2, c_G3, c_G4, nilT, nil_v, nil_k, nil_g, nil_o1, nil_o2, nil_and, nil_or, nil_not, nil_ch, nil_call, kn_non, km_non, kn_bl, km_bl, kn_int, km_int, kn_str, km_str, kn_scr, km_scr, kn_tup, kn_lst, km_tup, km_lst, evS, evE, evA, evX, eqB, callP, partI, slotLoc, isLst, appL, Option.map_some, Option.map_none, Option.bind_some, List.getElem?_cons_zero, List.getElem?_cons_succ, List.map_cons, List.map_nil, List.length_cons, List.length_nil, List.set_cons_zero, List.set_cons_succ, List.cons_append, List.nil_append, List.replicate_succ, List.replicate_zero, Nat.zero_add, Nat.reduceAdd, Nat.reduceSub, Nat.reduceLT, Int.reduceLT, Int.reduceLE, Int.reduceNeg, eq_self, and_self, and_true, true_and, Nat.reduceLeDiff, if_true, Bool.false_eq_true, if_false, ite_true, ite_false, decide_true, decide_false, Bool.not_true, Bool.not_false, Bool.and_true, Bool.true_and, wipeR, List.all_cons, List.all_nil, at_n, at_0, at_1, at_2, at_l, e_res_dPlan, e_len_dPlan, e_idx_dPlan, e_seq_dPlan, e_isi_int_dPlan, e_isi_bool_dPlan, e_isi_str_dPlan, e_isi_tuple_dPlan, e_isi_list_dPlan, e_isis_dPlan, e_isN_dPlan, e_nisN_dPlan, e_res_dMode, e_len_dMode, e_idx_dMode, e_seq_dMode, e_isi_int_dMode, e_isi_bool_dMode, e_isi_str_dMode, e_isi_tuple_dMode, e_isi_list_dMode, e_isis_dMode, e_isN_dMode, e_nisN_dMode, e_res_stL, e_len_stL, e_idx_stL, e_seq_stL, e_isi_int_stL, e_isi_bool_stL, e_isi_str_stL, e_isi_tuple_stL, e_isi_list_stL, e_isis_stL, e_isN_stL, e_nisN_stL, e_res_iL, e_len_iL, e_idx_iL, e_seq_iL, e_isi_int_iL, e_isi_bool_iL, e_isi_str_iL, e_isi_tuple_iL, e_isi_list_iL, e_isis_iL, e_isN_iL, e_nisN_iL, e_res_iT, e_len_iT, e_idx_iT, e_seq_iT, e_isi_int_iT, e_isi_bool_iT, e_isi_str_iT, e_isi_tuple_iT, e_isi_list_iT, e_isis_iT, e_isN_iT, e_nisN_iT, e_res_sL, e_len_sL, e_idx_sL, e_seq_sL, e_isi_int_sL, e_isi_bool_sL, e_isi_str_sL, e_isi_tuple_sL, e_isi_list_sL, e_isis_sL, e_isN_sL, e_nisN_sL, e_res_sT, e_len_sT, e_idx_sT, e_seq_sT, e_isi_int_sT, e_isi_bool_sT, e_isi_str_sT, e_isi_tuple_sT, e_isi_list_sT, e_isis_sT, e_isN_sT, e_nisN_sT, e_tuple_iL, e_list_iL, e_app_iL, e_tuple_iT, e_list_iT, e_appT_iL, e_tuple_sL, e_list_sL, e_app_sL, e_tuple_sT, e_list_sT, e_appT_sL, e_tuple_stL, e_list_stL, e_app_stL, e_tuple_dMode, e_list_dMode, e_appT_stL, e_resS, e_lenS, e_idx0, e_idx1, e_setS, e_all, e_srtS, ok_step, ok_mode, ok_stL, ok_plan, ok_iL, ok_iT, ok_sL, ok_sT, cm_step, cm_mode, cm_stL, cm_plan, cm_iL, cm_iT, cm_sL, cm_sT, eq_sL, eq_iL, eqD_int, eqD_str, e_isi_int_S, e_isi_bool_S, e_isi_str_S, e_isi_tuple_S, e_isi_list_S, it1_eq, it2_eq, itN_int, frzN_int, itN_str, frzN_str, itN_tup, frzN_tup, itN_lst, frzN_lst, itN_dPlan, frzN_dPlan, itN_dMode, frzN_dMode, itN_stL, frzN_stL, itN_iL, frzN_iL, itN_iT, frzN_iT, itN_sL, frzN_sL, itN_sT, frzN_sT, itN_dStep, frzN_dStep, frz_eq, frzN_loc, res_loc, dBools_bl, dInts_int, E_is_plan_F0, E_is_plan_G0, E_is_plan_G1]
def bads (p : Plan) : List D := [.non, .tup [], .tup [.tup []], .tup [.tup [.tup [.int 1, .str ""]]], .lst (p.map dMode), .int 5]
def isFl : P → Bool
  | .ok (.bl b) => !b
  | _ => false
theorem isFl_eq {x : P} (h : isFl x = true) : x = .ok (.bl false) := by
  unfold isFl at h
  split at h
  · rename_i b; cases b
    · rfl
    · cases h
  · cases h
theorem noPl_k {d : D} (h : isFl (F_is_plan [d]) = true) (ho : okN 60 d = true) (h1 : ∀ S, res S d = d) (h2 : ∀ S, frzN d S = .ok d S) : NoPl d := ⟨isFl_eq h, ho, h1, h2⟩
theorem bads_no (p : Plan) : ∀ d ∈ bads p, NoPl d := by
  intro d hd
  simp only [bads, List.mem_cons, List.not_mem_nil, or_false] at hd
  rcases hd with rfl | rfl | rfl | rfl | rfl | rfl
  · exact noPl_k (by decide +kernel) (by decide +kernel) (fun _ => rfl) (fun _ => rfl)
  · exact noPl_k (by decide +kernel) (by decide +kernel) (fun _ => rfl) (fun _ => rfl)
  · exact noPl_k (by decide +kernel) (by decide +kernel) (fun _ => rfl) (fun _ => rfl)
  · exact noPl_k (by decide +kernel) (by decide +kernel) (fun _ => rfl) (fun _ => rfl)
  · exact noPl_lst _ (ok_plan 56 p)
  · exact noPl_k (by decide +kernel) (by decide +kernel) (fun _ => rfl) (fun _ => rfl)
theorem look_no {d : D} (h : NoPl d) : F_look_plan [d] = .ex 0 := by
  have h1 := h.is
  have h2 := h.ok
  unfold F_look_plan runDef
  simp only [t_look_plan, res_non, res_bl, res_int, res_str, res_tup, res_lst, res_scr, res_dK, bind_ok, bind_ex, bind_no, opt_some, opt_none, v_add, v_addL, v_addT, v_addS, v_sub, v_mul, v_mulL, v_fdiv, v_mod, v_eq, v_ne, v_lt, v_le, v_gt, v_ge, v_idxL, v_idxT, v_idxS, v_inS, v_ninS, v_inL, v_ninL, v_isN_non, v_nisN_non, v_isN_bl, v_nisN_bl, v_isN_int, v_nisN_int, v_isN_str, v_nisN_str, v_isN_tup, v_nisN_tup, v_isN_lst, v_nisN_lst, v_isN_scr, v_nisN_scr, v_isN_dK, v_nisN_dK, v_isB, v_nisB, u_lenL, u_lenT, u_lenC, u_lenD, u_neg, u_all, u_any, u_sum, u_tupL, u_tupT, u_tupR, u_intB, u_isi_int_non, u_isi_int_bl, u_isi_int_int, u_isi_int_str, u_isi_int_tup, u_isi_int_lst, u_isi_int_scr, u_isi_int_dK, u_isi_bool_non, u_isi_bool_bl, u_isi_bool_int, u_isi_bool_str, u_isi_bool_tup, u_isi_bool_lst, u_isi_bool_scr, u_isi_bool_dK, u_isi_str_non, u_isi_str_bl, u_isi_str_int, u_isi_str_str, u_isi_str_tup, u_isi_str_lst, u_isi_str_scr, u_isi_str_dK, u_isi_tuple_non, u_isi_tuple_bl, u_isi_tuple_int, u_isi_tuple_str, u_isi_tuple_tup, u_isi_tuple_lst, u_isi_tuple_scr, u_isi_tuple_dK, u_isi_list_non, u_isi_list_bl, u_isi_list_int, u_isi_list_str, u_isi_list_tup, u_isi_list_lst, u_isi_list_scr, u_isi_list_dK, u_isis_lt_non, u_isis_lt_bl, u_isis_lt_int, u_isis_lt_str, u_isis_lt_tup, u_isis_lt_lst, u_isis_lt_scr, u_isis_lt_dK, w_listL, w_listT, w_listR, w_srtS, w_srt, y_seqL, y_seqT, y_rng, y_chars, s_n, s_t, s_nil, s_cons, c_F0, c_F1, c_F2, c_F3, c_F4, c_F5, c_F6, c_F7, c_F8, c_F9, c_F10, c_F11, c_G0, c_G1, c_G2, c_G3, c_G4, nilT, nil_v, nil_k, nil_g, nil_o1, nil_o2, nil_and, nil_or, nil_not, nil_ch, nil_call, kn_non, km_non, kn_bl, km_bl, kn_int, km_int, kn_str, km_str, kn_scr, km_scr, kn_tup, kn_lst, km_tup, km_lst, evS, evE, evA, evX, eqB, callP, partI, slotLoc, isLst, appL, Option.map_some, Option.map_none, Option.bind_some, List.getElem?_cons_zero, List.getElem?_cons_succ, List.map_cons, List.map_nil, List.length_cons, List.length_nil, List.set_cons_zero, List.set_cons_succ, List.cons_append, List.nil_append, List.replicate_succ, List.replicate_zero, Nat.zero_add, Nat.reduceAdd, Nat.reduceSub, Nat.reduceLT, Int.reduceLT, Int.reduceLE, Int.reduceNeg, eq_self, and_self, and_true, true_and, Nat.reduceLeDiff, if_true, Bool.false_eq_true, if_false, ite_true, ite_false, decide_true, decide_false, Bool.not_true, Bool.not_false, Bool.and_true, Bool.true_and, wipeR, List.all_cons, List.all_nil, at_n, at_0, at_1, at_2, at_l, e_res_dPlan, e_len_dPlan, e_idx_dPlan, e_seq_dPlan, e_isi_int_dPlan, e_isi_bool_dPlan, e_isi_str_dPlan, e_isi_tuple_dPlan, e_isi_list_dPlan, e_isis_dPlan, e_isN_dPlan, e_nisN_dPlan, e_res_dMode, e_len_dMode, e_idx_dMode, e_seq_dMode, e_isi_int_dMode, e_isi_bool_dMode, e_isi_str_dMode, e_isi_tuple_dMode, e_isi_list_dMode, e_isis_dMode, e_isN_dMode, e_nisN_dMode, e_res_stL, e_len_stL, e_idx_stL, e_seq_stL, e_isi_int_stL, e_isi_bool_stL, e_isi_str_stL, e_isi_tuple_stL, e_isi_list_stL, e_isis_stL, e_isN_stL, e_nisN_stL, e_res_iL, e_len_iL, e_idx_iL, e_seq_iL, e_isi_int_iL, e_isi_bool_iL, e_isi_str_iL, e_isi_tuple_iL, e_isi_list_iL, e_isis_iL, e_isN_iL, e_nisN_iL, e_res_iT, e_len_iT, e_idx_iT, e_seq_iT, e_isi_int_iT, e_isi_bool_iT, e_isi_str_iT, e_isi_tuple_iT, e_isi_list_iT, e_isis_iT, e_isN_iT, e_nisN_iT, e_res_sL, e_len_sL, e_idx_sL, e_seq_sL, e_isi_int_sL, e_isi_bool_sL, e_isi_str_sL, e_isi_tuple_sL, e_isi_list_sL, e_isis_sL, e_isN_sL, e_nisN_sL, e_res_sT, e_len_sT, e_idx_sT, e_seq_sT, e_isi_int_sT, e_isi_bool_sT, e_isi_str_sT, e_isi_tuple_sT, e_isi_list_sT, e_isis_sT, e_isN_sT, e_nisN_sT, e_tuple_iL, e_list_iL, e_app_iL, e_tuple_iT, e_list_iT, e_appT_iL, e_tuple_sL, e_list_sL, e_app_sL, e_tuple_sT, e_list_sT, e_appT_sL, e_tuple_stL, e_list_stL, e_app_stL, e_tuple_dMode, e_list_dMode, e_appT_stL, e_resS, e_lenS, e_idx0, e_idx1, e_setS, e_all, e_srtS, ok_step, ok_mode, ok_stL, ok_plan, ok_iL, ok_iT, ok_sL, ok_sT, cm_step, cm_mode, cm_stL, cm_plan, cm_iL, cm_iT, cm_sL, cm_sT, eq_sL, eq_iL, eqD_int, eqD_str, e_isi_int_S, e_isi_bool_S, e_isi_str_S, e_isi_tuple_S, e_isi_list_S, it1_eq, it2_eq, itN_int, frzN_int, itN_str, frzN_str, itN_tup, frzN_tup, itN_lst, frzN_lst, itN_dPlan, frzN_dPlan, itN_dMode, frzN_dMode, itN_stL, frzN_stL, itN_iL, frzN_iL, itN_iT, frzN_iT, itN_sL, frzN_sL, itN_sT, frzN_sT, itN_dStep, frzN_dStep, frz_eq, frzN_loc, res_loc, dBools_bl, dInts_int, E_look_plan_F0, h1, h2]
theorem nm_0 : nmOf 0 = "no plan" := rfl
theorem nm_1 : nmOf 1 = "no tells" := rfl
theorem nm_3 : nmOf 3 = "no press" := rfl
theorem nm_7 : nmOf 7 = "no deed" := rfl
theorem nm_8 : nmOf 8 = "no number" := rfl
theorem nm_9 : nmOf 9 = "no keys" := rfl
theorem tab0_c (S : Sto) : tab0 (.tab :: S) = true := rfl
theorem eq_str (a b : Str) : eqB (.str a) (.str b) = some (decide (a = b)) := by
  rw [← eqD_str]; rfl
theorem mul_one (x : D) (n : Nat) (h : n ≤ 1000) : ev2 .mul (.lst [x]) (.int (n : Nat)) = some (.lst (List.replicate n x)) := by
  have := sizeLine_big
  rw [v_mulL, if_pos ⟨by omega, by omega, by simp; omega⟩]
  simp
theorem at_of {α : Type} {xs : List α} {i : Int} {n : Nat} (hn : xs.length = n) (h : 0 ≤ i ∧ i < n) : ∃ x ∈ xs, atI xs i = some x := by
  obtain ⟨k, rfl⟩ : ∃ k : Nat, i = k := ⟨i.toNat, by omega⟩
  have h1 : k < xs.length := by omega
  exact ⟨xs[k], List.getElem_mem _, by rw [at_n]; exact List.getElem?_eq_getElem h1⟩
end Bp

namespace K77
open PySem Bp
def t_law_b1 : T := (.cons (.asg (.n 7) (.mk (.xl (.cons (.told (.call 2 (.cons (.v 5) (.cons (.o1 .neg (.k (.int 1))) (.cons (.v 3) (.cons (.o1 .neg (.k (.int 1))) .nil)))))) .nil)))) (.cons (.ex (.app 7 (.told (.call 3 (.cons (.v 5) (.cons (.v 3) .nil)))))) (.cons (.ex (.app 7 (.told (.call 4 (.cons (.v 5) (.cons (.v 3) .nil)))))) (.cons (.iff (.o2 .ne (.v 7) (.o2 .mul (.im (.xl (.cons (.v 6) .nil))) (.k (.int 3)))) (.cons (.ret (.k (.bl false))) .nil) .nil) .nil))))
def t_law_f1 : T := (.for_ (.t (.cons (.n 5) (.cons (.n 6) .nil))) (.it1 .seq (.tup (.cons (.tup (.cons (.v 2) (.cons (.k (.str "no plan")) .nil))) (.cons (.tup (.cons (.v 1) (.cons (.k (.str "no deed")) .nil))) .nil)))) t_law_b1)
def t_law_b2 : T := (.cons (.iff (.o2 .ne (.told (.call 2 (.cons (.v 1) (.cons (.v 4) (.cons (.k (.str "go")) (.cons (.k (.int 0)) .nil)))))) (.k (.str "no number"))) (.cons (.ret (.k (.bl false))) .nil) .nil) (.cons (.iff (.o2 .ne (.told (.call 2 (.cons (.v 1) (.cons (.k (.int 1)) (.cons (.k (.str "go")) (.cons (.v 4) .nil)))))) (.k (.str "no number"))) (.cons (.ret (.k (.bl false))) .nil) .nil) .nil))
def t_law_f2 : T := (.for_ (.n 4) (.it1 .seq (.tup (.cons (.o1 .neg (.k (.int 1))) (.cons (.k (.int 41)) (.cons (.k .non) (.cons (.k (.bl true)) (.cons (.k (.str "1")) (.cons (.tup (.cons (.k (.int 1)) .nil)) .nil)))))))) t_law_b2)
def t_law : T := (.cons (.asg (.n 1) (.call 0 (.cons (.v 0) (.cons (.k (.int 10)) (.cons (.k (.int 6)) .nil))))) (.cons (.asg (.n 2) (.o2 .idx (.im (.xl (.cons (.k .non) (.cons (.tup .nil) (.cons (.tup (.cons (.tup .nil) .nil)) (.cons (.tup (.cons (.tup (.cons (.tup (.cons (.k (.int 1)) (.cons (.k (.str "")) .nil))) .nil)) .nil)) (.cons (.im (.x1 .list (.v 1))) (.cons (.k (.int 5)) .nil)))))))) (.call 1 (.cons (.v 0) (.cons (.k (.int 100)) (.cons (.k (.int 6)) .nil)))))) (.cons (.asg (.n 3) (.o2 .idx (.im (.xl (.cons (.k (.str "")) (.cons (.k (.str "A")) (.cons (.k (.str "abcdefg")) (.cons (.k .non) (.cons (.k (.int 5)) (.cons (.tup (.cons (.k (.str "go")) .nil)) .nil)))))))) (.call 1 (.cons (.v 0) (.cons (.k (.int 101)) (.cons (.k (.int 6)) .nil)))))) (.cons t_law_f1 (.cons t_law_f2 (.cons (.ret (.o2 .eq (.call 2 (.cons (.tup (.cons (.tup (.cons (.tup (.cons (.k (.int 0)) (.cons (.k (.str "go")) .nil))) .nil)) .nil)) (.cons (.k (.int 40)) (.cons (.k (.str "go")) (.cons (.k (.int 40)) .nil))))) (.k (.int 1)))) .nil))))))
def E_law : Env' := mkE [F_u_law_plan, F_u_law_pick, F_count_rows, F_chance_of, F_mean_presses] []
theorem E_law_F0 : E_law.F 0 = F_u_law_plan := rfl
theorem E_law_F1 : E_law.F 1 = F_u_law_pick := rfl
theorem E_law_F2 : E_law.F 2 = F_count_rows := rfl
theorem E_law_F3 : E_law.F 3 = F_chance_of := rfl
theorem E_law_F4 : E_law.F 4 = F_mean_presses := rfl
def F_law : List D → P := runLaw E_law 1 8 t_law

end K77

namespace K77
open PySem L2 Bp
def odds : List D := [.str "", .str "A", .str "abcdefg", .non, .int 5, .tup [.str "go"]]
def offs : List D := [.int (-1), .int 41, .non, .bl true, .str "1", .tup [.int 1]]
def isB (b : Bool) : P → Bool
  | .ok (.bl c) => b == c
  | _ => false
theorem isB_eq {b : Bool} {x : P} (h : isB b x = true) : x = .ok (.bl b) := by
  unfold isB at h
  split at h
  · rw [beq_iff_eq.mp h]
  · cases h
def isI1 : P → Bool
  | .ok (.int 1) => true
  | _ => false
theorem isI1_eq {x : P} (h : isI1 x = true) : x = .ok (.int 1) := by
  unfold isI1 at h
  split at h
  · rfl
  · cases h
section
variable {d e : D}
theorem ld_no (h : NoPl d) (he : okN 60 e = true) : F_look_deed [d, e] = .ex 0 := by
  have h1 := look_no h
  have h4 := h.ok
  unfold F_look_deed runDef
  simp only [t_look_deed, res_non, res_bl, res_int, res_str, res_tup, res_lst, res_scr, res_dK, bind_ok, bind_ex, bind_no, opt_some, opt_none, v_add, v_addL, v_addT, v_addS, v_sub, v_mul, v_mulL, v_fdiv, v_mod, v_eq, v_ne, v_lt, v_le, v_gt, v_ge, v_idxL, v_idxT, v_idxS, v_inS, v_ninS, v_inL, v_ninL, v_isN_non, v_nisN_non, v_isN_bl, v_nisN_bl, v_isN_int, v_nisN_int, v_isN_str, v_nisN_str, v_isN_tup, v_nisN_tup, v_isN_lst, v_nisN_lst, v_isN_scr, v_nisN_scr, v_isN_dK, v_nisN_dK, v_isB, v_nisB, u_lenL, u_lenT, u_lenC, u_lenD, u_neg, u_all, u_any, u_sum, u_tupL, u_tupT, u_tupR, u_intB, u_isi_int_non, u_isi_int_bl, u_isi_int_int, u_isi_int_str, u_isi_int_tup, u_isi_int_lst, u_isi_int_scr, u_isi_int_dK, u_isi_bool_non, u_isi_bool_bl, u_isi_bool_int, u_isi_bool_str, u_isi_bool_tup, u_isi_bool_lst, u_isi_bool_scr, u_isi_bool_dK, u_isi_str_non, u_isi_str_bl, u_isi_str_int, u_isi_str_str, u_isi_str_tup, u_isi_str_lst, u_isi_str_scr, u_isi_str_dK, u_isi_tuple_non, u_isi_tuple_bl, u_isi_tuple_int, u_isi_tuple_str, u_isi_tuple_tup, u_isi_tuple_lst, u_isi_tuple_scr, u_isi_tuple_dK, u_isi_list_non, u_isi_list_bl, u_isi_list_int, u_isi_list_str, u_isi_list_tup, u_isi_list_lst, u_isi_list_scr, u_isi_list_dK, u_isis_lt_non, u_isis_lt_bl, u_isis_lt_int, u_isis_lt_str, u_isis_lt_tup, u_isis_lt_lst, u_isis_lt_scr, u_isis_lt_dK, w_listL, w_listT, w_listR, w_srtS, w_srt, y_seqL, y_seqT, y_rng, y_chars, s_n, s_t, s_nil, s_cons, c_F0, c_F1, c_F2, c_F3, c_F4, c_F5, c_F6, c_F7, c_F8, c_F9, c_F10, c_F11, c_G0, c_G1, c_G2, c_G3, c_G4, nilT, nil_v, nil_k, nil_g, nil_o1, nil_o2, nil_and, nil_or, nil_not, nil_ch, nil_call, kn_non, km_non, kn_bl, km_bl, kn_int, km_int, kn_str, km_str, kn_scr, km_scr, kn_tup, kn_lst, km_tup, km_lst, evS, evE, evA, evX, eqB, callP, partI, slotLoc, isLst, appL, Option.map_some, Option.map_none, Option.bind_some, List.getElem?_cons_zero, List.getElem?_cons_succ, List.map_cons, List.map_nil, List.length_cons, List.length_nil, List.set_cons_zero, List.set_cons_succ, List.cons_append, List.nil_append, List.replicate_succ, List.replicate_zero, Nat.zero_add, Nat.reduceAdd, Nat.reduceSub, Nat.reduceLT, Int.reduceLT, Int.reduceLE, Int.reduceNeg, eq_self, and_self, and_true, true_and, Nat.reduceLeDiff, if_true, Bool.false_eq_true, if_false, ite_true, ite_false, decide_true, decide_false, Bool.not_true, Bool.not_false, Bool.and_true, Bool.true_and, wipeR, List.all_cons, List.all_nil, at_n, at_0, at_1, at_2, at_l, e_res_dPlan, e_len_dPlan, e_idx_dPlan, e_seq_dPlan, e_isi_int_dPlan, e_isi_bool_dPlan, e_isi_str_dPlan, e_isi_tuple_dPlan, e_isi_list_dPlan, e_isis_dPlan, e_isN_dPlan, e_nisN_dPlan, e_res_dMode, e_len_dMode, e_idx_dMode, e_seq_dMode, e_isi_int_dMode, e_isi_bool_dMode, e_isi_str_dMode, e_isi_tuple_dMode, e_isi_list_dMode, e_isis_dMode, e_isN_dMode, e_nisN_dMode, e_res_stL, e_len_stL, e_idx_stL, e_seq_stL, e_isi_int_stL, e_isi_bool_stL, e_isi_str_stL, e_isi_tuple_stL, e_isi_list_stL, e_isis_stL, e_isN_stL, e_nisN_stL, e_res_iL, e_len_iL, e_idx_iL, e_seq_iL, e_isi_int_iL, e_isi_bool_iL, e_isi_str_iL, e_isi_tuple_iL, e_isi_list_iL, e_isis_iL, e_isN_iL, e_nisN_iL, e_res_iT, e_len_iT, e_idx_iT, e_seq_iT, e_isi_int_iT, e_isi_bool_iT, e_isi_str_iT, e_isi_tuple_iT, e_isi_list_iT, e_isis_iT, e_isN_iT, e_nisN_iT, e_res_sL, e_len_sL, e_idx_sL, e_seq_sL, e_isi_int_sL, e_isi_bool_sL, e_isi_str_sL, e_isi_tuple_sL, e_isi_list_sL, e_isis_sL, e_isN_sL, e_nisN_sL, e_res_sT, e_len_sT, e_idx_sT, e_seq_sT, e_isi_int_sT, e_isi_bool_sT, e_isi_str_sT, e_isi_tuple_sT, e_isi_list_sT, e_isis_sT, e_isN_sT, e_nisN_sT, e_tuple_iL, e_list_iL, e_app_iL, e_tuple_iT, e_list_iT, e_appT_iL, e_tuple_sL, e_list_sL, e_app_sL, e_tuple_sT, e_list_sT, e_appT_sL, e_tuple_stL, e_list_stL, e_app_stL, e_tuple_dMode, e_list_dMode, e_appT_stL, e_resS, e_lenS, e_idx0, e_idx1, e_setS, e_all, e_srtS, ok_step, ok_mode, ok_stL, ok_plan, ok_iL, ok_iT, ok_sL, ok_sT, cm_step, cm_mode, cm_stL, cm_plan, cm_iL, cm_iT, cm_sL, cm_sT, eq_sL, eq_iL, eqD_int, eqD_str, e_isi_int_S, e_isi_bool_S, e_isi_str_S, e_isi_tuple_S, e_isi_list_S, it1_eq, it2_eq, itN_int, frzN_int, itN_str, frzN_str, itN_tup, frzN_tup, itN_lst, frzN_lst, itN_dPlan, frzN_dPlan, itN_dMode, frzN_dMode, itN_stL, frzN_stL, itN_iL, frzN_iL, itN_iT, frzN_iT, itN_sL, frzN_sL, itN_sT, frzN_sT, itN_dStep, frzN_dStep, frz_eq, frzN_loc, res_loc, dBools_bl, dInts_int, E_look_deed_F0, E_look_deed_F1, h1, h4, he]
theorem ld_odd {p : Plan} {B : Nat} (h : IsPlan p B) : ∀ e ∈ odds, F_look_deed [dPlan p, e] = .ex 7 ∧ okN 60 e = true := by
  have h1 := look_ok h
  have h5 : okN 60 (dPlan p) = true := ok_plan 56 p
  have f0 : F_is_deed [.str ""] = .ok (.bl true) := isB_eq (by decide +kernel)
  have f1 : F_is_deed [.str "A"] = .ok (.bl false) := isB_eq (by decide +kernel)
  have f2 : F_is_deed [.str "abcdefg"] = .ok (.bl false) := isB_eq (by decide +kernel)
  have f3 : F_is_deed [.non] = .ok (.bl false) := isB_eq (by decide +kernel)
  have f4 : F_is_deed [.int 5] = .ok (.bl false) := isB_eq (by decide +kernel)
  have f5 : F_is_deed [.tup [.str "go"]] = .ok (.bl false) := isB_eq (by decide +kernel)
  have o59 : okN 59 (.str "go") = true := rfl
  intro e he
  simp only [odds, List.mem_cons, List.not_mem_nil, or_false] at he
  rcases he with rfl | rfl | rfl | rfl | rfl | rfl
  · refine ⟨?_, by decide +kernel⟩
    unfold F_look_deed runDef
    simp only [t_look_deed, res_non, res_bl, res_int, res_str, res_tup, res_lst, res_scr, res_dK, bind_ok, bind_ex, bind_no, opt_some, opt_none, v_add, v_addL, v_addT, v_addS, v_sub, v_mul, v_mulL, v_fdiv, v_mod, v_eq, v_ne, v_lt, v_le, v_gt, v_ge, v_idxL, v_idxT, v_idxS, v_inS, v_ninS, v_inL, v_ninL, v_isN_non, v_nisN_non, v_isN_bl, v_nisN_bl, v_isN_int, v_nisN_int, v_isN_str, v_nisN_str, v_isN_tup, v_nisN_tup, v_isN_lst, v_nisN_lst, v_isN_scr, v_nisN_scr, v_isN_dK, v_nisN_dK, v_isB, v_nisB, u_lenL, u_lenT, u_lenC, u_lenD, u_neg, u_all, u_any, u_sum, u_tupL, u_tupT, u_tupR, u_intB, u_isi_int_non, u_isi_int_bl, u_isi_int_int, u_isi_int_str, u_isi_int_tup, u_isi_int_lst, u_isi_int_scr, u_isi_int_dK, u_isi_bool_non, u_isi_bool_bl, u_isi_bool_int, u_isi_bool_str, u_isi_bool_tup, u_isi_bool_lst, u_isi_bool_scr, u_isi_bool_dK, u_isi_str_non, u_isi_str_bl, u_isi_str_int, u_isi_str_str, u_isi_str_tup, u_isi_str_lst, u_isi_str_scr, u_isi_str_dK, u_isi_tuple_non, u_isi_tuple_bl, u_isi_tuple_int, u_isi_tuple_str, u_isi_tuple_tup, u_isi_tuple_lst, u_isi_tuple_scr, u_isi_tuple_dK, u_isi_list_non, u_isi_list_bl, u_isi_list_int, u_isi_list_str, u_isi_list_tup, u_isi_list_lst, u_isi_list_scr, u_isi_list_dK, u_isis_lt_non, u_isis_lt_bl, u_isis_lt_int, u_isis_lt_str, u_isis_lt_tup, u_isis_lt_lst, u_isis_lt_scr, u_isis_lt_dK, w_listL, w_listT, w_listR, w_srtS, w_srt, y_seqL, y_seqT, y_rng, y_chars, s_n, s_t, s_nil, s_cons, c_F0, c_F1, c_F2, c_F3, c_F4, c_F5, c_F6, c_F7, c_F8, c_F9, c_F10, c_F11, c_G0, c_G1, c_G2, c_G3, c_G4, nilT, nil_v, nil_k, nil_g, nil_o1, nil_o2, nil_and, nil_or, nil_not, nil_ch, nil_call, kn_non, km_non, kn_bl, km_bl, kn_int, km_int, kn_str, km_str, kn_scr, km_scr, kn_tup, kn_lst, km_tup, km_lst, evS, evE, evA, evX, eqB, callP, partI, slotLoc, isLst, appL, Option.map_some, Option.map_none, Option.bind_some, List.getElem?_cons_zero, List.getElem?_cons_succ, List.map_cons, List.map_nil, List.length_cons, List.length_nil, List.set_cons_zero, List.set_cons_succ, List.cons_append, List.nil_append, List.replicate_succ, List.replicate_zero, Nat.zero_add, Nat.reduceAdd, Nat.reduceSub, Nat.reduceLT, Int.reduceLT, Int.reduceLE, Int.reduceNeg, eq_self, and_self, and_true, true_and, Nat.reduceLeDiff, if_true, Bool.false_eq_true, if_false, ite_true, ite_false, decide_true, decide_false, Bool.not_true, Bool.not_false, Bool.and_true, Bool.true_and, wipeR, List.all_cons, List.all_nil, at_n, at_0, at_1, at_2, at_l, e_res_dPlan, e_len_dPlan, e_idx_dPlan, e_seq_dPlan, e_isi_int_dPlan, e_isi_bool_dPlan, e_isi_str_dPlan, e_isi_tuple_dPlan, e_isi_list_dPlan, e_isis_dPlan, e_isN_dPlan, e_nisN_dPlan, e_res_dMode, e_len_dMode, e_idx_dMode, e_seq_dMode, e_isi_int_dMode, e_isi_bool_dMode, e_isi_str_dMode, e_isi_tuple_dMode, e_isi_list_dMode, e_isis_dMode, e_isN_dMode, e_nisN_dMode, e_res_stL, e_len_stL, e_idx_stL, e_seq_stL, e_isi_int_stL, e_isi_bool_stL, e_isi_str_stL, e_isi_tuple_stL, e_isi_list_stL, e_isis_stL, e_isN_stL, e_nisN_stL, e_res_iL, e_len_iL, e_idx_iL, e_seq_iL, e_isi_int_iL, e_isi_bool_iL, e_isi_str_iL, e_isi_tuple_iL, e_isi_list_iL, e_isis_iL, e_isN_iL, e_nisN_iL, e_res_iT, e_len_iT, e_idx_iT, e_seq_iT, e_isi_int_iT, e_isi_bool_iT, e_isi_str_iT, e_isi_tuple_iT, e_isi_list_iT, e_isis_iT, e_isN_iT, e_nisN_iT, e_res_sL, e_len_sL, e_idx_sL, e_seq_sL, e_isi_int_sL, e_isi_bool_sL, e_isi_str_sL, e_isi_tuple_sL, e_isi_list_sL, e_isis_sL, e_isN_sL, e_nisN_sL, e_res_sT, e_len_sT, e_idx_sT, e_seq_sT, e_isi_int_sT, e_isi_bool_sT, e_isi_str_sT, e_isi_tuple_sT, e_isi_list_sT, e_isis_sT, e_isN_sT, e_nisN_sT, e_tuple_iL, e_list_iL, e_app_iL, e_tuple_iT, e_list_iT, e_appT_iL, e_tuple_sL, e_list_sL, e_app_sL, e_tuple_sT, e_list_sT, e_appT_sL, e_tuple_stL, e_list_stL, e_app_stL, e_tuple_dMode, e_list_dMode, e_appT_stL, e_resS, e_lenS, e_idx0, e_idx1, e_setS, e_all, e_srtS, ok_step, ok_mode, ok_stL, ok_plan, ok_iL, ok_iT, ok_sL, ok_sT, cm_step, cm_mode, cm_stL, cm_plan, cm_iL, cm_iT, cm_sL, cm_sT, eq_sL, eq_iL, eqD_int, eqD_str, e_isi_int_S, e_isi_bool_S, e_isi_str_S, e_isi_tuple_S, e_isi_list_S, it1_eq, it2_eq, itN_int, frzN_int, itN_str, frzN_str, itN_tup, frzN_tup, itN_lst, frzN_lst, itN_dPlan, frzN_dPlan, itN_dMode, frzN_dMode, itN_stL, frzN_stL, itN_iL, frzN_iL, itN_iT, frzN_iT, itN_sL, frzN_sL, itN_sT, frzN_sT, itN_dStep, frzN_dStep, frz_eq, frzN_loc, res_loc, dBools_bl, dInts_int, E_look_deed_F0, E_look_deed_F1, h1, h5, f0]
  all_goals
    refine ⟨?_, by decide +kernel⟩
    unfold F_look_deed runDef
    simp only [t_look_deed, res_non, res_bl, res_int, res_str, res_tup, res_lst, res_scr, res_dK, bind_ok, bind_ex, bind_no, opt_some, opt_none, v_add, v_addL, v_addT, v_addS, v_sub, v_mul, v_mulL, v_fdiv, v_mod, v_eq, v_ne, v_lt, v_le, v_gt, v_ge, v_idxL, v_idxT, v_idxS, v_inS, v_ninS, v_inL, v_ninL, v_isN_non, v_nisN_non, v_isN_bl, v_nisN_bl, v_isN_int, v_nisN_int, v_isN_str, v_nisN_str, v_isN_tup, v_nisN_tup, v_isN_lst, v_nisN_lst, v_isN_scr, v_nisN_scr, v_isN_dK, v_nisN_dK, v_isB, v_nisB, u_lenL, u_lenT, u_lenC, u_lenD, u_neg, u_all, u_any, u_sum, u_tupL, u_tupT, u_tupR, u_intB, u_isi_int_non, u_isi_int_bl, u_isi_int_int, u_isi_int_str, u_isi_int_tup, u_isi_int_lst, u_isi_int_scr, u_isi_int_dK, u_isi_bool_non, u_isi_bool_bl, u_isi_bool_int, u_isi_bool_str, u_isi_bool_tup, u_isi_bool_lst, u_isi_bool_scr, u_isi_bool_dK, u_isi_str_non, u_isi_str_bl, u_isi_str_int, u_isi_str_str, u_isi_str_tup, u_isi_str_lst, u_isi_str_scr, u_isi_str_dK, u_isi_tuple_non, u_isi_tuple_bl, u_isi_tuple_int, u_isi_tuple_str, u_isi_tuple_tup, u_isi_tuple_lst, u_isi_tuple_scr, u_isi_tuple_dK, u_isi_list_non, u_isi_list_bl, u_isi_list_int, u_isi_list_str, u_isi_list_tup, u_isi_list_lst, u_isi_list_scr, u_isi_list_dK, u_isis_lt_non, u_isis_lt_bl, u_isis_lt_int, u_isis_lt_str, u_isis_lt_tup, u_isis_lt_lst, u_isis_lt_scr, u_isis_lt_dK, w_listL, w_listT, w_listR, w_srtS, w_srt, y_seqL, y_seqT, y_rng, y_chars, s_n, s_t, s_nil, s_cons, c_F0, c_F1, c_F2, c_F3, c_F4, c_F5, c_F6, c_F7, c_F8, c_F9, c_F10, c_F11, c_G0, c_G1, c_G2, c_G3, c_G4, nilT, nil_v, nil_k, nil_g, nil_o1, nil_o2, nil_and, nil_or, nil_not, nil_ch, nil_call, kn_non, km_non, kn_bl, km_bl, kn_int, km_int, kn_str, km_str, kn_scr, km_scr, kn_tup, kn_lst, km_tup, km_lst, evS, evE, evA, evX, eqB, callP, partI, slotLoc, isLst, appL, Option.map_some, Option.map_none, Option.bind_some, List.getElem?_cons_zero, List.getElem?_cons_succ, List.map_cons, List.map_nil, List.length_cons, List.length_nil, List.set_cons_zero, List.set_cons_succ, List.cons_append, List.nil_append, List.replicate_succ, List.replicate_zero, Nat.zero_add, Nat.reduceAdd, Nat.reduceSub, Nat.reduceLT, Int.reduceLT, Int.reduceLE, Int.reduceNeg, eq_self, and_self, and_true, true_and, Nat.reduceLeDiff, if_true, Bool.false_eq_true, if_false, ite_true, ite_false, decide_true, decide_false, Bool.not_true, Bool.not_false, Bool.and_true, Bool.true_and, wipeR, List.all_cons, List.all_nil, at_n, at_0, at_1, at_2, at_l, e_res_dPlan, e_len_dPlan, e_idx_dPlan, e_seq_dPlan, e_isi_int_dPlan, e_isi_bool_dPlan, e_isi_str_dPlan, e_isi_tuple_dPlan, e_isi_list_dPlan, e_isis_dPlan, e_isN_dPlan, e_nisN_dPlan, e_res_dMode, e_len_dMode, e_idx_dMode, e_seq_dMode, e_isi_int_dMode, e_isi_bool_dMode, e_isi_str_dMode, e_isi_tuple_dMode, e_isi_list_dMode, e_isis_dMode, e_isN_dMode, e_nisN_dMode, e_res_stL, e_len_stL, e_idx_stL, e_seq_stL, e_isi_int_stL, e_isi_bool_stL, e_isi_str_stL, e_isi_tuple_stL, e_isi_list_stL, e_isis_stL, e_isN_stL, e_nisN_stL, e_res_iL, e_len_iL, e_idx_iL, e_seq_iL, e_isi_int_iL, e_isi_bool_iL, e_isi_str_iL, e_isi_tuple_iL, e_isi_list_iL, e_isis_iL, e_isN_iL, e_nisN_iL, e_res_iT, e_len_iT, e_idx_iT, e_seq_iT, e_isi_int_iT, e_isi_bool_iT, e_isi_str_iT, e_isi_tuple_iT, e_isi_list_iT, e_isis_iT, e_isN_iT, e_nisN_iT, e_res_sL, e_len_sL, e_idx_sL, e_seq_sL, e_isi_int_sL, e_isi_bool_sL, e_isi_str_sL, e_isi_tuple_sL, e_isi_list_sL, e_isis_sL, e_isN_sL, e_nisN_sL, e_res_sT, e_len_sT, e_idx_sT, e_seq_sT, e_isi_int_sT, e_isi_bool_sT, e_isi_str_sT, e_isi_tuple_sT, e_isi_list_sT, e_isis_sT, e_isN_sT, e_nisN_sT, e_tuple_iL, e_list_iL, e_app_iL, e_tuple_iT, e_list_iT, e_appT_iL, e_tuple_sL, e_list_sL, e_app_sL, e_tuple_sT, e_list_sT, e_appT_sL, e_tuple_stL, e_list_stL, e_app_stL, e_tuple_dMode, e_list_dMode, e_appT_stL, e_resS, e_lenS, e_idx0, e_idx1, e_setS, e_all, e_srtS, ok_step, ok_mode, ok_stL, ok_plan, ok_iL, ok_iT, ok_sL, ok_sT, cm_step, cm_mode, cm_stL, cm_plan, cm_iL, cm_iT, cm_sL, cm_sT, eq_sL, eq_iL, eqD_int, eqD_str, e_isi_int_S, e_isi_bool_S, e_isi_str_S, e_isi_tuple_S, e_isi_list_S, it1_eq, it2_eq, itN_int, frzN_int, itN_str, frzN_str, itN_tup, frzN_tup, itN_lst, frzN_lst, itN_dPlan, frzN_dPlan, itN_dMode, frzN_dMode, itN_stL, frzN_stL, itN_iL, frzN_iL, itN_iT, frzN_iT, itN_sL, frzN_sL, itN_sT, frzN_sT, itN_dStep, frzN_dStep, frz_eq, frzN_loc, res_loc, dBools_bl, dInts_int, E_look_deed_F0, E_look_deed_F1, h1, h5, f1, f2, f3, f4, f5, o59, (show eqD (.tup [.str "go"]) (.str "") = false from rfl), (show cmpN 59 (.str "go") = true from rfl)]
theorem ld_go {p : Plan} {B : Nat} (h : IsPlan p B) : F_look_deed [dPlan p, .str "go"] = .ok .non := by
  have h1 := look_ok h
  have h5 : okN 60 (dPlan p) = true := ok_plan 56 p
  have f0 : F_is_deed [.str "go"] = .ok (.bl true) := isB_eq (by decide +kernel)
  unfold F_look_deed runDef
  simp only [t_look_deed, res_non, res_bl, res_int, res_str, res_tup, res_lst, res_scr, res_dK, bind_ok, bind_ex, bind_no, opt_some, opt_none, v_add, v_addL, v_addT, v_addS, v_sub, v_mul, v_mulL, v_fdiv, v_mod, v_eq, v_ne, v_lt, v_le, v_gt, v_ge, v_idxL, v_idxT, v_idxS, v_inS, v_ninS, v_inL, v_ninL, v_isN_non, v_nisN_non, v_isN_bl, v_nisN_bl, v_isN_int, v_nisN_int, v_isN_str, v_nisN_str, v_isN_tup, v_nisN_tup, v_isN_lst, v_nisN_lst, v_isN_scr, v_nisN_scr, v_isN_dK, v_nisN_dK, v_isB, v_nisB, u_lenL, u_lenT, u_lenC, u_lenD, u_neg, u_all, u_any, u_sum, u_tupL, u_tupT, u_tupR, u_intB, u_isi_int_non, u_isi_int_bl, u_isi_int_int, u_isi_int_str, u_isi_int_tup, u_isi_int_lst, u_isi_int_scr, u_isi_int_dK, u_isi_bool_non, u_isi_bool_bl, u_isi_bool_int, u_isi_bool_str, u_isi_bool_tup, u_isi_bool_lst, u_isi_bool_scr, u_isi_bool_dK, u_isi_str_non, u_isi_str_bl, u_isi_str_int, u_isi_str_str, u_isi_str_tup, u_isi_str_lst, u_isi_str_scr, u_isi_str_dK, u_isi_tuple_non, u_isi_tuple_bl, u_isi_tuple_int, u_isi_tuple_str, u_isi_tuple_tup, u_isi_tuple_lst, u_isi_tuple_scr, u_isi_tuple_dK, u_isi_list_non, u_isi_list_bl, u_isi_list_int, u_isi_list_str, u_isi_list_tup, u_isi_list_lst, u_isi_list_scr, u_isi_list_dK, u_isis_lt_non, u_isis_lt_bl, u_isis_lt_int, u_isis_lt_str, u_isis_lt_tup, u_isis_lt_lst, u_isis_lt_scr, u_isis_lt_dK, w_listL, w_listT, w_listR, w_srtS, w_srt, y_seqL, y_seqT, y_rng, y_chars, s_n, s_t, s_nil, s_cons, c_F0, c_F1, c_F2, c_F3, c_F4, c_F5, c_F6, c_F7, c_F8, c_F9, c_F10, c_F11, c_G0, c_G1, c_G2, c_G3, c_G4, nilT, nil_v, nil_k, nil_g, nil_o1, nil_o2, nil_and, nil_or, nil_not, nil_ch, nil_call, kn_non, km_non, kn_bl, km_bl, kn_int, km_int, kn_str, km_str, kn_scr, km_scr, kn_tup, kn_lst, km_tup, km_lst, evS, evE, evA, evX, eqB, callP, partI, slotLoc, isLst, appL, Option.map_some, Option.map_none, Option.bind_some, List.getElem?_cons_zero, List.getElem?_cons_succ, List.map_cons, List.map_nil, List.length_cons, List.length_nil, List.set_cons_zero, List.set_cons_succ, List.cons_append, List.nil_append, List.replicate_succ, List.replicate_zero, Nat.zero_add, Nat.reduceAdd, Nat.reduceSub, Nat.reduceLT, Int.reduceLT, Int.reduceLE, Int.reduceNeg, eq_self, and_self, and_true, true_and, Nat.reduceLeDiff, if_true, Bool.false_eq_true, if_false, ite_true, ite_false, decide_true, decide_false, Bool.not_true, Bool.not_false, Bool.and_true, Bool.true_and, wipeR, List.all_cons, List.all_nil, at_n, at_0, at_1, at_2, at_l, e_res_dPlan, e_len_dPlan, e_idx_dPlan, e_seq_dPlan, e_isi_int_dPlan, e_isi_bool_dPlan, e_isi_str_dPlan, e_isi_tuple_dPlan, e_isi_list_dPlan, e_isis_dPlan, e_isN_dPlan, e_nisN_dPlan, e_res_dMode, e_len_dMode, e_idx_dMode, e_seq_dMode, e_isi_int_dMode, e_isi_bool_dMode, e_isi_str_dMode, e_isi_tuple_dMode, e_isi_list_dMode, e_isis_dMode, e_isN_dMode, e_nisN_dMode, e_res_stL, e_len_stL, e_idx_stL, e_seq_stL, e_isi_int_stL, e_isi_bool_stL, e_isi_str_stL, e_isi_tuple_stL, e_isi_list_stL, e_isis_stL, e_isN_stL, e_nisN_stL, e_res_iL, e_len_iL, e_idx_iL, e_seq_iL, e_isi_int_iL, e_isi_bool_iL, e_isi_str_iL, e_isi_tuple_iL, e_isi_list_iL, e_isis_iL, e_isN_iL, e_nisN_iL, e_res_iT, e_len_iT, e_idx_iT, e_seq_iT, e_isi_int_iT, e_isi_bool_iT, e_isi_str_iT, e_isi_tuple_iT, e_isi_list_iT, e_isis_iT, e_isN_iT, e_nisN_iT, e_res_sL, e_len_sL, e_idx_sL, e_seq_sL, e_isi_int_sL, e_isi_bool_sL, e_isi_str_sL, e_isi_tuple_sL, e_isi_list_sL, e_isis_sL, e_isN_sL, e_nisN_sL, e_res_sT, e_len_sT, e_idx_sT, e_seq_sT, e_isi_int_sT, e_isi_bool_sT, e_isi_str_sT, e_isi_tuple_sT, e_isi_list_sT, e_isis_sT, e_isN_sT, e_nisN_sT, e_tuple_iL, e_list_iL, e_app_iL, e_tuple_iT, e_list_iT, e_appT_iL, e_tuple_sL, e_list_sL, e_app_sL, e_tuple_sT, e_list_sT, e_appT_sL, e_tuple_stL, e_list_stL, e_app_stL, e_tuple_dMode, e_list_dMode, e_appT_stL, e_resS, e_lenS, e_idx0, e_idx1, e_setS, e_all, e_srtS, ok_step, ok_mode, ok_stL, ok_plan, ok_iL, ok_iT, ok_sL, ok_sT, cm_step, cm_mode, cm_stL, cm_plan, cm_iL, cm_iT, cm_sL, cm_sT, eq_sL, eq_iL, eqD_int, eqD_str, e_isi_int_S, e_isi_bool_S, e_isi_str_S, e_isi_tuple_S, e_isi_list_S, it1_eq, it2_eq, itN_int, frzN_int, itN_str, frzN_str, itN_tup, frzN_tup, itN_lst, frzN_lst, itN_dPlan, frzN_dPlan, itN_dMode, frzN_dMode, itN_stL, frzN_stL, itN_iL, frzN_iL, itN_iT, frzN_iT, itN_sL, frzN_sL, itN_sT, frzN_sT, itN_dStep, frzN_dStep, frz_eq, frzN_loc, res_loc, dBools_bl, dInts_int, E_look_deed_F0, E_look_deed_F1, h1, h5, f0]
  rfl
theorem cr_ex {c : Nat} {a b : D} (h : F_look_deed [d, e] = .ex c) (h1 : okN 60 d = true) (h2 : okN 60 e = true) : F_count_rows [d, a, e, b] = .ex c := by
  unfold F_count_rows runDef
  simp only [t_count_rows, res_non, res_bl, res_int, res_str, res_tup, res_lst, res_scr, res_dK, bind_ok, bind_ex, bind_no, opt_some, opt_none, v_add, v_addL, v_addT, v_addS, v_sub, v_mul, v_mulL, v_fdiv, v_mod, v_eq, v_ne, v_lt, v_le, v_gt, v_ge, v_idxL, v_idxT, v_idxS, v_inS, v_ninS, v_inL, v_ninL, v_isN_non, v_nisN_non, v_isN_bl, v_nisN_bl, v_isN_int, v_nisN_int, v_isN_str, v_nisN_str, v_isN_tup, v_nisN_tup, v_isN_lst, v_nisN_lst, v_isN_scr, v_nisN_scr, v_isN_dK, v_nisN_dK, v_isB, v_nisB, u_lenL, u_lenT, u_lenC, u_lenD, u_neg, u_all, u_any, u_sum, u_tupL, u_tupT, u_tupR, u_intB, u_isi_int_non, u_isi_int_bl, u_isi_int_int, u_isi_int_str, u_isi_int_tup, u_isi_int_lst, u_isi_int_scr, u_isi_int_dK, u_isi_bool_non, u_isi_bool_bl, u_isi_bool_int, u_isi_bool_str, u_isi_bool_tup, u_isi_bool_lst, u_isi_bool_scr, u_isi_bool_dK, u_isi_str_non, u_isi_str_bl, u_isi_str_int, u_isi_str_str, u_isi_str_tup, u_isi_str_lst, u_isi_str_scr, u_isi_str_dK, u_isi_tuple_non, u_isi_tuple_bl, u_isi_tuple_int, u_isi_tuple_str, u_isi_tuple_tup, u_isi_tuple_lst, u_isi_tuple_scr, u_isi_tuple_dK, u_isi_list_non, u_isi_list_bl, u_isi_list_int, u_isi_list_str, u_isi_list_tup, u_isi_list_lst, u_isi_list_scr, u_isi_list_dK, u_isis_lt_non, u_isis_lt_bl, u_isis_lt_int, u_isis_lt_str, u_isis_lt_tup, u_isis_lt_lst, u_isis_lt_scr, u_isis_lt_dK, w_listL, w_listT, w_listR, w_srtS, w_srt, y_seqL, y_seqT, y_rng, y_chars, s_n, s_t, s_nil, s_cons, c_F0, c_F1, c_F2, c_F3, c_F4, c_F5, c_F6, c_F7, c_F8, c_F9, c_F10, c_F11, c_G0, c_G1, c_G2, c_G3, c_G4, nilT, nil_v, nil_k, nil_g, nil_o1, nil_o2, nil_and, nil_or, nil_not, nil_ch, nil_call, kn_non, km_non, kn_bl, km_bl, kn_int, km_int, kn_str, km_str, kn_scr, km_scr, kn_tup, kn_lst, km_tup, km_lst, evS, evE, evA, evX, eqB, callP, partI, slotLoc, isLst, appL, Option.map_some, Option.map_none, Option.bind_some, List.getElem?_cons_zero, List.getElem?_cons_succ, List.map_cons, List.map_nil, List.length_cons, List.length_nil, List.set_cons_zero, List.set_cons_succ, List.cons_append, List.nil_append, List.replicate_succ, List.replicate_zero, Nat.zero_add, Nat.reduceAdd, Nat.reduceSub, Nat.reduceLT, Int.reduceLT, Int.reduceLE, Int.reduceNeg, eq_self, and_self, and_true, true_and, Nat.reduceLeDiff, if_true, Bool.false_eq_true, if_false, ite_true, ite_false, decide_true, decide_false, Bool.not_true, Bool.not_false, Bool.and_true, Bool.true_and, wipeR, List.all_cons, List.all_nil, at_n, at_0, at_1, at_2, at_l, e_res_dPlan, e_len_dPlan, e_idx_dPlan, e_seq_dPlan, e_isi_int_dPlan, e_isi_bool_dPlan, e_isi_str_dPlan, e_isi_tuple_dPlan, e_isi_list_dPlan, e_isis_dPlan, e_isN_dPlan, e_nisN_dPlan, e_res_dMode, e_len_dMode, e_idx_dMode, e_seq_dMode, e_isi_int_dMode, e_isi_bool_dMode, e_isi_str_dMode, e_isi_tuple_dMode, e_isi_list_dMode, e_isis_dMode, e_isN_dMode, e_nisN_dMode, e_res_stL, e_len_stL, e_idx_stL, e_seq_stL, e_isi_int_stL, e_isi_bool_stL, e_isi_str_stL, e_isi_tuple_stL, e_isi_list_stL, e_isis_stL, e_isN_stL, e_nisN_stL, e_res_iL, e_len_iL, e_idx_iL, e_seq_iL, e_isi_int_iL, e_isi_bool_iL, e_isi_str_iL, e_isi_tuple_iL, e_isi_list_iL, e_isis_iL, e_isN_iL, e_nisN_iL, e_res_iT, e_len_iT, e_idx_iT, e_seq_iT, e_isi_int_iT, e_isi_bool_iT, e_isi_str_iT, e_isi_tuple_iT, e_isi_list_iT, e_isis_iT, e_isN_iT, e_nisN_iT, e_res_sL, e_len_sL, e_idx_sL, e_seq_sL, e_isi_int_sL, e_isi_bool_sL, e_isi_str_sL, e_isi_tuple_sL, e_isi_list_sL, e_isis_sL, e_isN_sL, e_nisN_sL, e_res_sT, e_len_sT, e_idx_sT, e_seq_sT, e_isi_int_sT, e_isi_bool_sT, e_isi_str_sT, e_isi_tuple_sT, e_isi_list_sT, e_isis_sT, e_isN_sT, e_nisN_sT, e_tuple_iL, e_list_iL, e_app_iL, e_tuple_iT, e_list_iT, e_appT_iL, e_tuple_sL, e_list_sL, e_app_sL, e_tuple_sT, e_list_sT, e_appT_sL, e_tuple_stL, e_list_stL, e_app_stL, e_tuple_dMode, e_list_dMode, e_appT_stL, e_resS, e_lenS, e_idx0, e_idx1, e_setS, e_all, e_srtS, ok_step, ok_mode, ok_stL, ok_plan, ok_iL, ok_iT, ok_sL, ok_sT, cm_step, cm_mode, cm_stL, cm_plan, cm_iL, cm_iT, cm_sL, cm_sT, eq_sL, eq_iL, eqD_int, eqD_str, e_isi_int_S, e_isi_bool_S, e_isi_str_S, e_isi_tuple_S, e_isi_list_S, it1_eq, it2_eq, itN_int, frzN_int, itN_str, frzN_str, itN_tup, frzN_tup, itN_lst, frzN_lst, itN_dPlan, frzN_dPlan, itN_dMode, frzN_dMode, itN_stL, frzN_stL, itN_iL, frzN_iL, itN_iT, frzN_iT, itN_sL, frzN_sL, itN_sT, frzN_sT, itN_dStep, frzN_dStep, frz_eq, frzN_loc, res_loc, dBools_bl, dInts_int, E_count_rows_F0, E_count_rows_F1, E_count_rows_G0, h, h1, h2]
theorem ch_ex {c : Nat} (h : F_look_deed [d, e] = .ex c) (h1 : okN 60 d = true) (h2 : okN 60 e = true) : F_chance_of [d, e] = .ex c := by
  unfold F_chance_of runDef
  simp only [t_chance_of, res_non, res_bl, res_int, res_str, res_tup, res_lst, res_scr, res_dK, bind_ok, bind_ex, bind_no, opt_some, opt_none, v_add, v_addL, v_addT, v_addS, v_sub, v_mul, v_mulL, v_fdiv, v_mod, v_eq, v_ne, v_lt, v_le, v_gt, v_ge, v_idxL, v_idxT, v_idxS, v_inS, v_ninS, v_inL, v_ninL, v_isN_non, v_nisN_non, v_isN_bl, v_nisN_bl, v_isN_int, v_nisN_int, v_isN_str, v_nisN_str, v_isN_tup, v_nisN_tup, v_isN_lst, v_nisN_lst, v_isN_scr, v_nisN_scr, v_isN_dK, v_nisN_dK, v_isB, v_nisB, u_lenL, u_lenT, u_lenC, u_lenD, u_neg, u_all, u_any, u_sum, u_tupL, u_tupT, u_tupR, u_intB, u_isi_int_non, u_isi_int_bl, u_isi_int_int, u_isi_int_str, u_isi_int_tup, u_isi_int_lst, u_isi_int_scr, u_isi_int_dK, u_isi_bool_non, u_isi_bool_bl, u_isi_bool_int, u_isi_bool_str, u_isi_bool_tup, u_isi_bool_lst, u_isi_bool_scr, u_isi_bool_dK, u_isi_str_non, u_isi_str_bl, u_isi_str_int, u_isi_str_str, u_isi_str_tup, u_isi_str_lst, u_isi_str_scr, u_isi_str_dK, u_isi_tuple_non, u_isi_tuple_bl, u_isi_tuple_int, u_isi_tuple_str, u_isi_tuple_tup, u_isi_tuple_lst, u_isi_tuple_scr, u_isi_tuple_dK, u_isi_list_non, u_isi_list_bl, u_isi_list_int, u_isi_list_str, u_isi_list_tup, u_isi_list_lst, u_isi_list_scr, u_isi_list_dK, u_isis_lt_non, u_isis_lt_bl, u_isis_lt_int, u_isis_lt_str, u_isis_lt_tup, u_isis_lt_lst, u_isis_lt_scr, u_isis_lt_dK, w_listL, w_listT, w_listR, w_srtS, w_srt, y_seqL, y_seqT, y_rng, y_chars, s_n, s_t, s_nil, s_cons, c_F0, c_F1, c_F2, c_F3, c_F4, c_F5, c_F6, c_F7, c_F8, c_F9, c_F10, c_F11, c_G0, c_G1, c_G2, c_G3, c_G4, nilT, nil_v, nil_k, nil_g, nil_o1, nil_o2, nil_and, nil_or, nil_not, nil_ch, nil_call, kn_non, km_non, kn_bl, km_bl, kn_int, km_int, kn_str, km_str, kn_scr, km_scr, kn_tup, kn_lst, km_tup, km_lst, evS, evE, evA, evX, eqB, callP, partI, slotLoc, isLst, appL, Option.map_some, Option.map_none, Option.bind_some, List.getElem?_cons_zero, List.getElem?_cons_succ, List.map_cons, List.map_nil, List.length_cons, List.length_nil, List.set_cons_zero, List.set_cons_succ, List.cons_append, List.nil_append, List.replicate_succ, List.replicate_zero, Nat.zero_add, Nat.reduceAdd, Nat.reduceSub, Nat.reduceLT, Int.reduceLT, Int.reduceLE, Int.reduceNeg, eq_self, and_self, and_true, true_and, Nat.reduceLeDiff, if_true, Bool.false_eq_true, if_false, ite_true, ite_false, decide_true, decide_false, Bool.not_true, Bool.not_false, Bool.and_true, Bool.true_and, wipeR, List.all_cons, List.all_nil, at_n, at_0, at_1, at_2, at_l, e_res_dPlan, e_len_dPlan, e_idx_dPlan, e_seq_dPlan, e_isi_int_dPlan, e_isi_bool_dPlan, e_isi_str_dPlan, e_isi_tuple_dPlan, e_isi_list_dPlan, e_isis_dPlan, e_isN_dPlan, e_nisN_dPlan, e_res_dMode, e_len_dMode, e_idx_dMode, e_seq_dMode, e_isi_int_dMode, e_isi_bool_dMode, e_isi_str_dMode, e_isi_tuple_dMode, e_isi_list_dMode, e_isis_dMode, e_isN_dMode, e_nisN_dMode, e_res_stL, e_len_stL, e_idx_stL, e_seq_stL, e_isi_int_stL, e_isi_bool_stL, e_isi_str_stL, e_isi_tuple_stL, e_isi_list_stL, e_isis_stL, e_isN_stL, e_nisN_stL, e_res_iL, e_len_iL, e_idx_iL, e_seq_iL, e_isi_int_iL, e_isi_bool_iL, e_isi_str_iL, e_isi_tuple_iL, e_isi_list_iL, e_isis_iL, e_isN_iL, e_nisN_iL, e_res_iT, e_len_iT, e_idx_iT, e_seq_iT, e_isi_int_iT, e_isi_bool_iT, e_isi_str_iT, e_isi_tuple_iT, e_isi_list_iT, e_isis_iT, e_isN_iT, e_nisN_iT, e_res_sL, e_len_sL, e_idx_sL, e_seq_sL, e_isi_int_sL, e_isi_bool_sL, e_isi_str_sL, e_isi_tuple_sL, e_isi_list_sL, e_isis_sL, e_isN_sL, e_nisN_sL, e_res_sT, e_len_sT, e_idx_sT, e_seq_sT, e_isi_int_sT, e_isi_bool_sT, e_isi_str_sT, e_isi_tuple_sT, e_isi_list_sT, e_isis_sT, e_isN_sT, e_nisN_sT, e_tuple_iL, e_list_iL, e_app_iL, e_tuple_iT, e_list_iT, e_appT_iL, e_tuple_sL, e_list_sL, e_app_sL, e_tuple_sT, e_list_sT, e_appT_sL, e_tuple_stL, e_list_stL, e_app_stL, e_tuple_dMode, e_list_dMode, e_appT_stL, e_resS, e_lenS, e_idx0, e_idx1, e_setS, e_all, e_srtS, ok_step, ok_mode, ok_stL, ok_plan, ok_iL, ok_iT, ok_sL, ok_sT, cm_step, cm_mode, cm_stL, cm_plan, cm_iL, cm_iT, cm_sL, cm_sT, eq_sL, eq_iL, eqD_int, eqD_str, e_isi_int_S, e_isi_bool_S, e_isi_str_S, e_isi_tuple_S, e_isi_list_S, it1_eq, it2_eq, itN_int, frzN_int, itN_str, frzN_str, itN_tup, frzN_tup, itN_lst, frzN_lst, itN_dPlan, frzN_dPlan, itN_dMode, frzN_dMode, itN_stL, frzN_stL, itN_iL, frzN_iL, itN_iT, frzN_iT, itN_sL, frzN_sL, itN_sT, frzN_sT, itN_dStep, frzN_dStep, frz_eq, frzN_loc, res_loc, dBools_bl, dInts_int, E_chance_of_F0, E_chance_of_F1, h, h1, h2]
theorem me_ex {c : Nat} (h : F_look_deed [d, e] = .ex c) (h1 : okN 60 d = true) (h2 : okN 60 e = true) : F_mean_presses [d, e] = .ex c := by
  unfold F_mean_presses runDef
  simp only [t_mean_presses, res_non, res_bl, res_int, res_str, res_tup, res_lst, res_scr, res_dK, bind_ok, bind_ex, bind_no, opt_some, opt_none, v_add, v_addL, v_addT, v_addS, v_sub, v_mul, v_mulL, v_fdiv, v_mod, v_eq, v_ne, v_lt, v_le, v_gt, v_ge, v_idxL, v_idxT, v_idxS, v_inS, v_ninS, v_inL, v_ninL, v_isN_non, v_nisN_non, v_isN_bl, v_nisN_bl, v_isN_int, v_nisN_int, v_isN_str, v_nisN_str, v_isN_tup, v_nisN_tup, v_isN_lst, v_nisN_lst, v_isN_scr, v_nisN_scr, v_isN_dK, v_nisN_dK, v_isB, v_nisB, u_lenL, u_lenT, u_lenC, u_lenD, u_neg, u_all, u_any, u_sum, u_tupL, u_tupT, u_tupR, u_intB, u_isi_int_non, u_isi_int_bl, u_isi_int_int, u_isi_int_str, u_isi_int_tup, u_isi_int_lst, u_isi_int_scr, u_isi_int_dK, u_isi_bool_non, u_isi_bool_bl, u_isi_bool_int, u_isi_bool_str, u_isi_bool_tup, u_isi_bool_lst, u_isi_bool_scr, u_isi_bool_dK, u_isi_str_non, u_isi_str_bl, u_isi_str_int, u_isi_str_str, u_isi_str_tup, u_isi_str_lst, u_isi_str_scr, u_isi_str_dK, u_isi_tuple_non, u_isi_tuple_bl, u_isi_tuple_int, u_isi_tuple_str, u_isi_tuple_tup, u_isi_tuple_lst, u_isi_tuple_scr, u_isi_tuple_dK, u_isi_list_non, u_isi_list_bl, u_isi_list_int, u_isi_list_str, u_isi_list_tup, u_isi_list_lst, u_isi_list_scr, u_isi_list_dK, u_isis_lt_non, u_isis_lt_bl, u_isis_lt_int, u_isis_lt_str, u_isis_lt_tup, u_isis_lt_lst, u_isis_lt_scr, u_isis_lt_dK, w_listL, w_listT, w_listR, w_srtS, w_srt, y_seqL, y_seqT, y_rng, y_chars, s_n, s_t, s_nil, s_cons, c_F0, c_F1, c_F2, c_F3, c_F4, c_F5, c_F6, c_F7, c_F8, c_F9, c_F10, c_F11, c_G0, c_G1, c_G2, c_G3, c_G4, nilT, nil_v, nil_k, nil_g, nil_o1, nil_o2, nil_and, nil_or, nil_not, nil_ch, nil_call, kn_non, km_non, kn_bl, km_bl, kn_int, km_int, kn_str, km_str, kn_scr, km_scr, kn_tup, kn_lst, km_tup, km_lst, evS, evE, evA, evX, eqB, callP, partI, slotLoc, isLst, appL, Option.map_some, Option.map_none, Option.bind_some, List.getElem?_cons_zero, List.getElem?_cons_succ, List.map_cons, List.map_nil, List.length_cons, List.length_nil, List.set_cons_zero, List.set_cons_succ, List.cons_append, List.nil_append, List.replicate_succ, List.replicate_zero, Nat.zero_add, Nat.reduceAdd, Nat.reduceSub, Nat.reduceLT, Int.reduceLT, Int.reduceLE, Int.reduceNeg, eq_self, and_self, and_true, true_and, Nat.reduceLeDiff, if_true, Bool.false_eq_true, if_false, ite_true, ite_false, decide_true, decide_false, Bool.not_true, Bool.not_false, Bool.and_true, Bool.true_and, wipeR, List.all_cons, List.all_nil, at_n, at_0, at_1, at_2, at_l, e_res_dPlan, e_len_dPlan, e_idx_dPlan, e_seq_dPlan, e_isi_int_dPlan, e_isi_bool_dPlan, e_isi_str_dPlan, e_isi_tuple_dPlan, e_isi_list_dPlan, e_isis_dPlan, e_isN_dPlan, e_nisN_dPlan, e_res_dMode, e_len_dMode, e_idx_dMode, e_seq_dMode, e_isi_int_dMode, e_isi_bool_dMode, e_isi_str_dMode, e_isi_tuple_dMode, e_isi_list_dMode, e_isis_dMode, e_isN_dMode, e_nisN_dMode, e_res_stL, e_len_stL, e_idx_stL, e_seq_stL, e_isi_int_stL, e_isi_bool_stL, e_isi_str_stL, e_isi_tuple_stL, e_isi_list_stL, e_isis_stL, e_isN_stL, e_nisN_stL, e_res_iL, e_len_iL, e_idx_iL, e_seq_iL, e_isi_int_iL, e_isi_bool_iL, e_isi_str_iL, e_isi_tuple_iL, e_isi_list_iL, e_isis_iL, e_isN_iL, e_nisN_iL, e_res_iT, e_len_iT, e_idx_iT, e_seq_iT, e_isi_int_iT, e_isi_bool_iT, e_isi_str_iT, e_isi_tuple_iT, e_isi_list_iT, e_isis_iT, e_isN_iT, e_nisN_iT, e_res_sL, e_len_sL, e_idx_sL, e_seq_sL, e_isi_int_sL, e_isi_bool_sL, e_isi_str_sL, e_isi_tuple_sL, e_isi_list_sL, e_isis_sL, e_isN_sL, e_nisN_sL, e_res_sT, e_len_sT, e_idx_sT, e_seq_sT, e_isi_int_sT, e_isi_bool_sT, e_isi_str_sT, e_isi_tuple_sT, e_isi_list_sT, e_isis_sT, e_isN_sT, e_nisN_sT, e_tuple_iL, e_list_iL, e_app_iL, e_tuple_iT, e_list_iT, e_appT_iL, e_tuple_sL, e_list_sL, e_app_sL, e_tuple_sT, e_list_sT, e_appT_sL, e_tuple_stL, e_list_stL, e_app_stL, e_tuple_dMode, e_list_dMode, e_appT_stL, e_resS, e_lenS, e_idx0, e_idx1, e_setS, e_all, e_srtS, ok_step, ok_mode, ok_stL, ok_plan, ok_iL, ok_iT, ok_sL, ok_sT, cm_step, cm_mode, cm_stL, cm_plan, cm_iL, cm_iT, cm_sL, cm_sT, eq_sL, eq_iL, eqD_int, eqD_str, e_isi_int_S, e_isi_bool_S, e_isi_str_S, e_isi_tuple_S, e_isi_list_S, it1_eq, it2_eq, itN_int, frzN_int, itN_str, frzN_str, itN_tup, frzN_tup, itN_lst, frzN_lst, itN_dPlan, frzN_dPlan, itN_dMode, frzN_dMode, itN_stL, frzN_stL, itN_iL, frzN_iL, itN_iT, frzN_iT, itN_sL, frzN_sL, itN_sT, frzN_sT, itN_dStep, frzN_dStep, frz_eq, frzN_loc, res_loc, dBools_bl, dInts_int, E_mean_presses_F0, E_mean_presses_F1, E_mean_presses_F2, h, h1, h2]
end
theorem offs_no : ∀ d ∈ offs, F_is_whole [d, .int 0, .int 40] = .ok (.bl false) ∧ okN 60 d = true := by
  have h : (offs.all fun d => isB false (F_is_whole [d, .int 0, .int 40]) && okN 60 d) = true := by decide +kernel
  intro d hd
  have := List.all_eq_true.mp h d hd
  rw [Bool.and_eq_true] at this
  exact ⟨isB_eq this.1, this.2⟩
theorem cr_off1 {p : Plan} {B : Nat} (h : IsPlan p B) {o b : D} (ho : o ∈ offs) : F_count_rows [dPlan p, o, .str "go", b] = .ex 8 := by
  obtain ⟨h2, h3⟩ := offs_no o ho
  have h1 := ld_go h
  have h5 : okN 60 (dPlan p) = true := ok_plan 56 p
  unfold F_count_rows runDef
  simp only [t_count_rows, res_non, res_bl, res_int, res_str, res_tup, res_lst, res_scr, res_dK, bind_ok, bind_ex, bind_no, opt_some, opt_none, v_add, v_addL, v_addT, v_addS, v_sub, v_mul, v_mulL, v_fdiv, v_mod, v_eq, v_ne, v_lt, v_le, v_gt, v_ge, v_idxL, v_idxT, v_idxS, v_inS, v_ninS, v_inL, v_ninL, v_isN_non, v_nisN_non, v_isN_bl, v_nisN_bl, v_isN_int, v_nisN_int, v_isN_str, v_nisN_str, v_isN_tup, v_nisN_tup, v_isN_lst, v_nisN_lst, v_isN_scr, v_nisN_scr, v_isN_dK, v_nisN_dK, v_isB, v_nisB, u_lenL, u_lenT, u_lenC, u_lenD, u_neg, u_all, u_any, u_sum, u_tupL, u_tupT, u_tupR, u_intB, u_isi_int_non, u_isi_int_bl, u_isi_int_int, u_isi_int_str, u_isi_int_tup, u_isi_int_lst, u_isi_int_scr, u_isi_int_dK, u_isi_bool_non, u_isi_bool_bl, u_isi_bool_int, u_isi_bool_str, u_isi_bool_tup, u_isi_bool_lst, u_isi_bool_scr, u_isi_bool_dK, u_isi_str_non, u_isi_str_bl, u_isi_str_int, u_isi_str_str, u_isi_str_tup, u_isi_str_lst, u_isi_str_scr, u_isi_str_dK, u_isi_tuple_non, u_isi_tuple_bl, u_isi_tuple_int, u_isi_tuple_str, u_isi_tuple_tup, u_isi_tuple_lst, u_isi_tuple_scr, u_isi_tuple_dK, u_isi_list_non, u_isi_list_bl, u_isi_list_int, u_isi_list_str, u_isi_list_tup, u_isi_list_lst, u_isi_list_scr, u_isi_list_dK, u_isis_lt_non, u_isis_lt_bl, u_isis_lt_int, u_isis_lt_str, u_isis_lt_tup, u_isis_lt_lst, u_isis_lt_scr, u_isis_lt_dK, w_listL, w_listT, w_listR, w_srtS, w_srt, y_seqL, y_seqT, y_rng, y_chars, s_n, s_t, s_nil, s_cons, c_F0, c_F1, c_F2, c_F3, c_F4, c_F5, c_F6, c_F7, c_F8, c_F9, c_F10, c_F11, c_G0, c_G1, c_G2, c_G3, c_G4, nilT, nil_v, nil_k, nil_g, nil_o1, nil_o2, nil_and, nil_or, nil_not, nil_ch, nil_call, kn_non, km_non, kn_bl, km_bl, kn_int, km_int, kn_str, km_str, kn_scr, km_scr, kn_tup, kn_lst, km_tup, km_lst, evS, evE, evA, evX, eqB, callP, partI, slotLoc, isLst, appL, Option.map_some, Option.map_none, Option.bind_some, List.getElem?_cons_zero, List.getElem?_cons_succ, List.map_cons, List.map_nil, List.length_cons, List.length_nil, List.set_cons_zero, List.set_cons_succ, List.cons_append, List.nil_append, List.replicate_succ, List.replicate_zero, Nat.zero_add, Nat.reduceAdd, Nat.reduceSub, Nat.reduceLT, Int.reduceLT, Int.reduceLE, Int.reduceNeg, eq_self, and_self, and_true, true_and, Nat.reduceLeDiff, if_true, Bool.false_eq_true, if_false, ite_true, ite_false, decide_true, decide_false, Bool.not_true, Bool.not_false, Bool.and_true, Bool.true_and, wipeR, List.all_cons, List.all_nil, at_n, at_0, at_1, at_2, at_l, e_res_dPlan, e_len_dPlan, e_idx_dPlan, e_seq_dPlan, e_isi_int_dPlan, e_isi_bool_dPlan, e_isi_str_dPlan, e_isi_tuple_dPlan, e_isi_list_dPlan, e_isis_dPlan, e_isN_dPlan, e_nisN_dPlan, e_res_dMode, e_len_dMode, e_idx_dMode, e_seq_dMode, e_isi_int_dMode, e_isi_bool_dMode, e_isi_str_dMode, e_isi_tuple_dMode, e_isi_list_dMode, e_isis_dMode, e_isN_dMode, e_nisN_dMode, e_res_stL, e_len_stL, e_idx_stL, e_seq_stL, e_isi_int_stL, e_isi_bool_stL, e_isi_str_stL, e_isi_tuple_stL, e_isi_list_stL, e_isis_stL, e_isN_stL, e_nisN_stL, e_res_iL, e_len_iL, e_idx_iL, e_seq_iL, e_isi_int_iL, e_isi_bool_iL, e_isi_str_iL, e_isi_tuple_iL, e_isi_list_iL, e_isis_iL, e_isN_iL, e_nisN_iL, e_res_iT, e_len_iT, e_idx_iT, e_seq_iT, e_isi_int_iT, e_isi_bool_iT, e_isi_str_iT, e_isi_tuple_iT, e_isi_list_iT, e_isis_iT, e_isN_iT, e_nisN_iT, e_res_sL, e_len_sL, e_idx_sL, e_seq_sL, e_isi_int_sL, e_isi_bool_sL, e_isi_str_sL, e_isi_tuple_sL, e_isi_list_sL, e_isis_sL, e_isN_sL, e_nisN_sL, e_res_sT, e_len_sT, e_idx_sT, e_seq_sT, e_isi_int_sT, e_isi_bool_sT, e_isi_str_sT, e_isi_tuple_sT, e_isi_list_sT, e_isis_sT, e_isN_sT, e_nisN_sT, e_tuple_iL, e_list_iL, e_app_iL, e_tuple_iT, e_list_iT, e_appT_iL, e_tuple_sL, e_list_sL, e_app_sL, e_tuple_sT, e_list_sT, e_appT_sL, e_tuple_stL, e_list_stL, e_app_stL, e_tuple_dMode, e_list_dMode, e_appT_stL, e_resS, e_lenS, e_idx0, e_idx1, e_setS, e_all, e_srtS, ok_step, ok_mode, ok_stL, ok_plan, ok_iL, ok_iT, ok_sL, ok_sT, cm_step, cm_mode, cm_stL, cm_plan, cm_iL, cm_iT, cm_sL, cm_sT, eq_sL, eq_iL, eqD_int, eqD_str, e_isi_int_S, e_isi_bool_S, e_isi_str_S, e_isi_tuple_S, e_isi_list_S, it1_eq, it2_eq, itN_int, frzN_int, itN_str, frzN_str, itN_tup, frzN_tup, itN_lst, frzN_lst, itN_dPlan, frzN_dPlan, itN_dMode, frzN_dMode, itN_stL, frzN_stL, itN_iL, frzN_iL, itN_iT, frzN_iT, itN_sL, frzN_sL, itN_sT, frzN_sT, itN_dStep, frzN_dStep, frz_eq, frzN_loc, res_loc, dBools_bl, dInts_int, E_count_rows_F0, E_count_rows_F1, E_count_rows_G0, h1, h2, h3, h5]
theorem cr_off2 {p : Plan} {B : Nat} (h : IsPlan p B) {o : D} (ho : o ∈ offs) : F_count_rows [dPlan p, .int 1, .str "go", o] = .ex 8 := by
  obtain ⟨h2, h3⟩ := offs_no o ho
  have h1 := ld_go h
  have h4 : F_is_whole [.int 1, .int 0, .int 40] = .ok (.bl true) := isB_eq (by decide +kernel)
  have h5 : okN 60 (dPlan p) = true := ok_plan 56 p
  unfold F_count_rows runDef
  simp only [t_count_rows, res_non, res_bl, res_int, res_str, res_tup, res_lst, res_scr, res_dK, bind_ok, bind_ex, bind_no, opt_some, opt_none, v_add, v_addL, v_addT, v_addS, v_sub, v_mul, v_mulL, v_fdiv, v_mod, v_eq, v_ne, v_lt, v_le, v_gt, v_ge, v_idxL, v_idxT, v_idxS, v_inS, v_ninS, v_inL, v_ninL, v_isN_non, v_nisN_non, v_isN_bl, v_nisN_bl, v_isN_int, v_nisN_int, v_isN_str, v_nisN_str, v_isN_tup, v_nisN_tup, v_isN_lst, v_nisN_lst, v_isN_scr, v_nisN_scr, v_isN_dK, v_nisN_dK, v_isB, v_nisB, u_lenL, u_lenT, u_lenC, u_lenD, u_neg, u_all, u_any, u_sum, u_tupL, u_tupT, u_tupR, u_intB, u_isi_int_non, u_isi_int_bl, u_isi_int_int, u_isi_int_str, u_isi_int_tup, u_isi_int_lst, u_isi_int_scr, u_isi_int_dK, u_isi_bool_non, u_isi_bool_bl, u_isi_bool_int, u_isi_bool_str, u_isi_bool_tup, u_isi_bool_lst, u_isi_bool_scr, u_isi_bool_dK, u_isi_str_non, u_isi_str_bl, u_isi_str_int, u_isi_str_str, u_isi_str_tup, u_isi_str_lst, u_isi_str_scr, u_isi_str_dK, u_isi_tuple_non, u_isi_tuple_bl, u_isi_tuple_int, u_isi_tuple_str, u_isi_tuple_tup, u_isi_tuple_lst, u_isi_tuple_scr, u_isi_tuple_dK, u_isi_list_non, u_isi_list_bl, u_isi_list_int, u_isi_list_str, u_isi_list_tup, u_isi_list_lst, u_isi_list_scr, u_isi_list_dK, u_isis_lt_non, u_isis_lt_bl, u_isis_lt_int, u_isis_lt_str, u_isis_lt_tup, u_isis_lt_lst, u_isis_lt_scr, u_isis_lt_dK, w_listL, w_listT, w_listR, w_srtS, w_srt, y_seqL, y_seqT, y_rng, y_chars, s_n, s_t, s_nil, s_cons, c_F0, c_F1, c_F2, c_F3, c_F4, c_F5, c_F6, c_F7, c_F8, c_F9, c_F10, c_F11, c_G0, c_G1, c_G2, c_G3, c_G4, nilT, nil_v, nil_k, nil_g, nil_o1, nil_o2, nil_and, nil_or, nil_not, nil_ch, nil_call, kn_non, km_non, kn_bl, km_bl, kn_int, km_int, kn_str, km_str, kn_scr, km_scr, kn_tup, kn_lst, km_tup, km_lst, evS, evE, evA, evX, eqB, callP, partI, slotLoc, isLst, appL, Option.map_some, Option.map_none, Option.bind_some, List.getElem?_cons_zero, List.getElem?_cons_succ, List.map_cons, List.map_nil, List.length_cons, List.length_nil, List.set_cons_zero, List.set_cons_succ, List.cons_append, List.nil_append, List.replicate_succ, List.replicate_zero, Nat.zero_add, Nat.reduceAdd, Nat.reduceSub, Nat.reduceLT, Int.reduceLT, Int.reduceLE, Int.reduceNeg, eq_self, and_self, and_true, true_and, Nat.reduceLeDiff, if_true, Bool.false_eq_true, if_false, ite_true, ite_false, decide_true, decide_false, Bool.not_true, Bool.not_false, Bool.and_true, Bool.true_and, wipeR, List.all_cons, List.all_nil, at_n, at_0, at_1, at_2, at_l, e_res_dPlan, e_len_dPlan, e_idx_dPlan, e_seq_dPlan, e_isi_int_dPlan, e_isi_bool_dPlan, e_isi_str_dPlan, e_isi_tuple_dPlan, e_isi_list_dPlan, e_isis_dPlan, e_isN_dPlan, e_nisN_dPlan, e_res_dMode, e_len_dMode, e_idx_dMode, e_seq_dMode, e_isi_int_dMode, e_isi_bool_dMode, e_isi_str_dMode, e_isi_tuple_dMode, e_isi_list_dMode, e_isis_dMode, e_isN_dMode, e_nisN_dMode, e_res_stL, e_len_stL, e_idx_stL, e_seq_stL, e_isi_int_stL, e_isi_bool_stL, e_isi_str_stL, e_isi_tuple_stL, e_isi_list_stL, e_isis_stL, e_isN_stL, e_nisN_stL, e_res_iL, e_len_iL, e_idx_iL, e_seq_iL, e_isi_int_iL, e_isi_bool_iL, e_isi_str_iL, e_isi_tuple_iL, e_isi_list_iL, e_isis_iL, e_isN_iL, e_nisN_iL, e_res_iT, e_len_iT, e_idx_iT, e_seq_iT, e_isi_int_iT, e_isi_bool_iT, e_isi_str_iT, e_isi_tuple_iT, e_isi_list_iT, e_isis_iT, e_isN_iT, e_nisN_iT, e_res_sL, e_len_sL, e_idx_sL, e_seq_sL, e_isi_int_sL, e_isi_bool_sL, e_isi_str_sL, e_isi_tuple_sL, e_isi_list_sL, e_isis_sL, e_isN_sL, e_nisN_sL, e_res_sT, e_len_sT, e_idx_sT, e_seq_sT, e_isi_int_sT, e_isi_bool_sT, e_isi_str_sT, e_isi_tuple_sT, e_isi_list_sT, e_isis_sT, e_isN_sT, e_nisN_sT, e_tuple_iL, e_list_iL, e_app_iL, e_tuple_iT, e_list_iT, e_appT_iL, e_tuple_sL, e_list_sL, e_app_sL, e_tuple_sT, e_list_sT, e_appT_sL, e_tuple_stL, e_list_stL, e_app_stL, e_tuple_dMode, e_list_dMode, e_appT_stL, e_resS, e_lenS, e_idx0, e_idx1, e_setS, e_all, e_srtS, ok_step, ok_mode, ok_stL, ok_plan, ok_iL, ok_iT, ok_sL, ok_sT, cm_step, cm_mode, cm_stL, cm_plan, cm_iL, cm_iT, cm_sL, cm_sT, eq_sL, eq_iL, eqD_int, eqD_str, e_isi_int_S, e_isi_bool_S, e_isi_str_S, e_isi_tuple_S, e_isi_list_S, it1_eq, it2_eq, itN_int, frzN_int, itN_str, frzN_str, itN_tup, frzN_tup, itN_lst, frzN_lst, itN_dPlan, frzN_dPlan, itN_dMode, frzN_dMode, itN_stL, frzN_stL, itN_iL, frzN_iL, itN_iT, frzN_iT, itN_sL, frzN_sL, itN_sT, frzN_sT, itN_dStep, frzN_dStep, frz_eq, frzN_loc, res_loc, dBools_bl, dInts_int, E_count_rows_F0, E_count_rows_F1, E_count_rows_G0, h1, h2, h3, h4, h5]
theorem cr_one : F_count_rows [.tup [.tup [.tup [.int 0, .str "go"]]], .int 40, .str "go", .int 40] = .ok (.int 1) := isI1_eq (by decide +kernel)
theorem eq_three (a b d c : Str) : eqD (.lst [.str a, .str b, .str d]) (.lst [.str c, .str c, .str c]) = (decide (a = c) && (decide (b = c) && decide (d = c))) := by
  rw [← eqD_str, ← eqD_str, ← eqD_str]
  show (eqD (.str a) (.str c) && (eqD (.str b) (.str c) && (eqD (.str d) (.str c) && true))) = _
  rw [Bool.and_true]
theorem cm_s (n : Nat) (x : Str) : cmpN (n + 1) (.str x) = true := rfl
/-- one turn -/
theorem turn_ok {m od : D} {due : Str} {c : Nat} (hc : c < 10) (hn : nmOf c = due) (h1 : F_look_deed [m, od] = .ex c) (k1 : okN 60 m = true) (k3 : okN 60 od = true) (a b x f t : Option D) (rest : Sto) :
    ∃ t' rest', evS E_law t_law_b1 [a, b, x, some od, f, some m, some (.str due), t] (.tab :: rest) = .nx [a, b, x, some od, f, some m, some (.str due), t'] (.tab :: rest') := by
  have n0 : ∀ n : Nat, n ≤ 10 → n ≤ sizeLine := fun n h => by have := sizeLine_big; omega
  have n1 : (1 : Nat) < sizeLine := by have := sizeLine_big; omega
  have n2 : (2 : Nat) < sizeLine := by have := sizeLine_big; omega
  have m2 : ∀ x, ev2 .mul (.lst [x]) (.int 3) = some (.lst [x, x, x]) := fun x => mul_one x 3 (by omega)
  have h2 := fun a b => cr_ex (a := a) (b := b) h1 k1 k3
  have h3 := ch_ex h1 k1 k3
  have h4 := me_ex h1 k1 k3
  have o1 : ∀ i, okN 60 (.int i) = true := fun _ => rfl
  refine ⟨some (.loc (rest.length + 1)), rest ++ [.lst [.str due, .str due, .str due]], ?_⟩
  simp only [t_law_b1, res_non, res_bl, res_int, res_str, res_tup, res_lst, res_scr, res_dK, bind_ok, bind_ex, bind_no, opt_some, opt_none, v_add, v_addL, v_addT, v_addS, v_sub, v_mul, v_mulL, v_fdiv, v_mod, v_eq, v_ne, v_lt, v_le, v_gt, v_ge, v_idxL, v_idxT, v_idxS, v_inS, v_ninS, v_inL, v_ninL, v_isN_non, v_nisN_non, v_isN_bl, v_nisN_bl, v_isN_int, v_nisN_int, v_isN_str, v_nisN_str, v_isN_tup, v_nisN_tup, v_isN_lst, v_nisN_lst, v_isN_scr, v_nisN_scr, v_isN_dK, v_nisN_dK, v_isB, v_nisB, u_lenL, u_lenT, u_lenC, u_lenD, u_neg, u_all, u_any, u_sum, u_tupL, u_tupT, u_tupR, u_intB, u_isi_int_non, u_isi_int_bl, u_isi_int_int, u_isi_int_str, u_isi_int_tup, u_isi_int_lst, u_isi_int_scr, u_isi_int_dK, u_isi_bool_non, u_isi_bool_bl, u_isi_bool_int, u_isi_bool_str, u_isi_bool_tup, u_isi_bool_lst, u_isi_bool_scr, u_isi_bool_dK, u_isi_str_non, u_isi_str_bl, u_isi_str_int, u_isi_str_str, u_isi_str_tup, u_isi_str_lst, u_isi_str_scr, u_isi_str_dK, u_isi_tuple_non, u_isi_tuple_bl, u_isi_tuple_int, u_isi_tuple_str, u_isi_tuple_tup, u_isi_tuple_lst, u_isi_tuple_scr, u_isi_tuple_dK, u_isi_list_non, u_isi_list_bl, u_isi_list_int, u_isi_list_str, u_isi_list_tup, u_isi_list_lst, u_isi_list_scr, u_isi_list_dK, u_isis_lt_non, u_isis_lt_bl, u_isis_lt_int, u_isis_lt_str, u_isis_lt_tup, u_isis_lt_lst, u_isis_lt_scr, u_isis_lt_dK, w_listL, w_listT, w_listR, w_srtS, w_srt, y_seqL, y_seqT, y_rng, y_chars, s_n, s_t, s_nil, s_cons, c_F0, c_F1, c_F2, c_F3, c_F4, c_F5, c_F6, c_F7, c_F8, c_F9, c_F10, c_F11, c_G0, c_G1, c_G2, c_G3, c_G4, nilT, nil_v, nil_k, nil_g, nil_o1, nil_o2, nil_and, nil_or, nil_not, nil_ch, nil_call, kn_non, km_non, kn_bl, km_bl, kn_int, km_int, kn_str, km_str, kn_scr, km_scr, kn_tup, kn_lst, km_tup, km_lst, evS, evE, evA, evX, eqB, callP, partI, slotLoc, isLst, appL, Option.map_some, Option.map_none, Option.bind_some, List.getElem?_cons_zero, List.getElem?_cons_succ, List.map_cons, List.map_nil, List.length_cons, List.length_nil, List.set_cons_zero, List.set_cons_succ, List.cons_append, List.nil_append, List.replicate_succ, List.replicate_zero, Nat.zero_add, Nat.reduceAdd, Nat.reduceSub, Nat.reduceLT, Int.reduceLT, Int.reduceLE, Int.reduceNeg, eq_self, and_self, and_true, true_and, Nat.reduceLeDiff, if_true, Bool.false_eq_true, if_false, ite_true, ite_false, decide_true, decide_false, Bool.not_true, Bool.not_false, Bool.and_true, Bool.true_and, wipeR, List.all_cons, List.all_nil, at_n, at_0, at_1, at_2, at_l, e_res_dPlan, e_len_dPlan, e_idx_dPlan, e_seq_dPlan, e_isi_int_dPlan, e_isi_bool_dPlan, e_isi_str_dPlan, e_isi_tuple_dPlan, e_isi_list_dPlan, e_isis_dPlan, e_isN_dPlan, e_nisN_dPlan, e_res_dMode, e_len_dMode, e_idx_dMode, e_seq_dMode, e_isi_int_dMode, e_isi_bool_dMode, e_isi_str_dMode, e_isi_tuple_dMode, e_isi_list_dMode, e_isis_dMode, e_isN_dMode, e_nisN_dMode, e_res_stL, e_len_stL, e_idx_stL, e_seq_stL, e_isi_int_stL, e_isi_bool_stL, e_isi_str_stL, e_isi_tuple_stL, e_isi_list_stL, e_isis_stL, e_isN_stL, e_nisN_stL, e_res_iL, e_len_iL, e_idx_iL, e_seq_iL, e_isi_int_iL, e_isi_bool_iL, e_isi_str_iL, e_isi_tuple_iL, e_isi_list_iL, e_isis_iL, e_isN_iL, e_nisN_iL, e_res_iT, e_len_iT, e_idx_iT, e_seq_iT, e_isi_int_iT, e_isi_bool_iT, e_isi_str_iT, e_isi_tuple_iT, e_isi_list_iT, e_isis_iT, e_isN_iT, e_nisN_iT, e_res_sL, e_len_sL, e_idx_sL, e_seq_sL, e_isi_int_sL, e_isi_bool_sL, e_isi_str_sL, e_isi_tuple_sL, e_isi_list_sL, e_isis_sL, e_isN_sL, e_nisN_sL, e_res_sT, e_len_sT, e_idx_sT, e_seq_sT, e_isi_int_sT, e_isi_bool_sT, e_isi_str_sT, e_isi_tuple_sT, e_isi_list_sT, e_isis_sT, e_isN_sT, e_nisN_sT, e_tuple_iL, e_list_iL, e_app_iL, e_tuple_iT, e_list_iT, e_appT_iL, e_tuple_sL, e_list_sL, e_app_sL, e_tuple_sT, e_list_sT, e_appT_sL, e_tuple_stL, e_list_stL, e_app_stL, e_tuple_dMode, e_list_dMode, e_appT_stL, e_resS, e_lenS, e_idx0, e_idx1, e_setS, e_all, e_srtS, ok_step, ok_mode, ok_stL, ok_plan, ok_iL, ok_iT, ok_sL, ok_sT, cm_step, cm_mode, cm_stL, cm_plan, cm_iL, cm_iT, cm_sL, cm_sT, eq_sL, eq_iL, eqD_int, eqD_str, e_isi_int_S, e_isi_bool_S, e_isi_str_S, e_isi_tuple_S, e_isi_list_S, it1_eq, it2_eq, itN_int, frzN_int, itN_str, frzN_str, itN_tup, frzN_tup, itN_lst, frzN_lst, itN_dPlan, frzN_dPlan, itN_dMode, frzN_dMode, itN_stL, frzN_stL, itN_iL, frzN_iL, itN_iT, frzN_iT, itN_sL, frzN_sL, itN_sT, frzN_sT, itN_dStep, frzN_dStep, frz_eq, frzN_loc, res_loc, dBools_bl, dInts_int, E_law_F0, E_law_F1, E_law_F2, E_law_F3, E_law_F4, h2, h3, h4, k1, k3, o1, hc, hn, tab0_c, n0 1 (by omega), n1, n2, get_end, set_end, m2, eq_three, cm_s 58]
theorem off_ok {p : Plan} {B : Nat} (i1 : IsPlan p B) {o : D} (ho : o ∈ offs) (a x y u v w : Option D) (S : Sto) :
    evS E_law t_law_b2 [a, some (dPlan p), x, y, some o, u, v, w] (.tab :: S) = .nx [a, some (dPlan p), x, y, some o, u, v, w] (.tab :: S) := by
  have h1 := cr_off1 i1 (b := .int 0) ho
  have h2 := cr_off2 i1 ho
  have k1 : okN 60 (dPlan p) = true := ok_plan 56 p
  have k2 := (offs_no o ho).2
  simp only [t_law_b2, res_non, res_bl, res_int, res_str, res_tup, res_lst, res_scr, res_dK, bind_ok, bind_ex, bind_no, opt_some, opt_none, v_add, v_addL, v_addT, v_addS, v_sub, v_mul, v_mulL, v_fdiv, v_mod, v_eq, v_ne, v_lt, v_le, v_gt, v_ge, v_idxL, v_idxT, v_idxS, v_inS, v_ninS, v_inL, v_ninL, v_isN_non, v_nisN_non, v_isN_bl, v_nisN_bl, v_isN_int, v_nisN_int, v_isN_str, v_nisN_str, v_isN_tup, v_nisN_tup, v_isN_lst, v_nisN_lst, v_isN_scr, v_nisN_scr, v_isN_dK, v_nisN_dK, v_isB, v_nisB, u_lenL, u_lenT, u_lenC, u_lenD, u_neg, u_all, u_any, u_sum, u_tupL, u_tupT, u_tupR, u_intB, u_isi_int_non, u_isi_int_bl, u_isi_int_int, u_isi_int_str, u_isi_int_tup, u_isi_int_lst, u_isi_int_scr, u_isi_int_dK, u_isi_bool_non, u_isi_bool_bl, u_isi_bool_int, u_isi_bool_str, u_isi_bool_tup, u_isi_bool_lst, u_isi_bool_scr, u_isi_bool_dK, u_isi_str_non, u_isi_str_bl, u_isi_str_int, u_isi_str_str, u_isi_str_tup, u_isi_str_lst, u_isi_str_scr, u_isi_str_dK, u_isi_tuple_non, u_isi_tuple_bl, u_isi_tuple_int, u_isi_tuple_str, u_isi_tuple_tup, u_isi_tuple_lst, u_isi_tuple_scr, u_isi_tuple_dK, u_isi_list_non, u_isi_list_bl, u_isi_list_int, u_isi_list_str, u_isi_list_tup, u_isi_list_lst, u_isi_list_scr, u_isi_list_dK, u_isis_lt_non, u_isis_lt_bl, u_isis_lt_int, u_isis_lt_str, u_isis_lt_tup, u_isis_lt_lst, u_isis_lt_scr, u_isis_lt_dK, w_listL, w_listT, w_listR, w_srtS, w_srt, y_seqL, y_seqT, y_rng, y_chars, s_n, s_t, s_nil, s_cons, c_F0, c_F1, c_F2, c_F3, c_F4, c_F5, c_F6, c_F7, c_F8, c_F9, c_F10, c_F11, c_G0, c_G1, c_G2, c_G3, c_G4, nilT, nil_v, nil_k, nil_g, nil_o1, nil_o2, nil_and, nil_or, nil_not, nil_ch, nil_call, kn_non, km_non, kn_bl, km_bl, kn_int, km_int, kn_str, km_str, kn_scr, km_scr, kn_tup, kn_lst, km_tup, km_lst, evS, evE, evA, evX, eqB, callP, partI, slotLoc, isLst, appL, Option.map_some, Option.map_none, Option.bind_some, List.getElem?_cons_zero, List.getElem?_cons_succ, List.map_cons, List.map_nil, List.length_cons, List.length_nil, List.set_cons_zero, List.set_cons_succ, List.cons_append, List.nil_append, List.replicate_succ, List.replicate_zero, Nat.zero_add, Nat.reduceAdd, Nat.reduceSub, Nat.reduceLT, Int.reduceLT, Int.reduceLE, Int.reduceNeg, eq_self, and_self, and_true, true_and, Nat.reduceLeDiff, if_true, Bool.false_eq_true, if_false, ite_true, ite_false, decide_true, decide_false, Bool.not_true, Bool.not_false, Bool.and_true, Bool.true_and, wipeR, List.all_cons, List.all_nil, at_n, at_0, at_1, at_2, at_l, e_res_dPlan, e_len_dPlan, e_idx_dPlan, e_seq_dPlan, e_isi_int_dPlan, e_isi_bool_dPlan, e_isi_str_dPlan, e_isi_tuple_dPlan, e_isi_list_dPlan, e_isis_dPlan, e_isN_dPlan, e_nisN_dPlan, e_res_dMode, e_len_dMode, e_idx_dMode, e_seq_dMode, e_isi_int_dMode, e_isi_bool_dMode, e_isi_str_dMode, e_isi_tuple_dMode, e_isi_list_dMode, e_isis_dMode, e_isN_dMode, e_nisN_dMode, e_res_stL, e_len_stL, e_idx_stL, e_seq_stL, e_isi_int_stL, e_isi_bool_stL, e_isi_str_stL, e_isi_tuple_stL, e_isi_list_stL, e_isis_stL, e_isN_stL, e_nisN_stL, e_res_iL, e_len_iL, e_idx_iL, e_seq_iL, e_isi_int_iL, e_isi_bool_iL, e_isi_str_iL, e_isi_tuple_iL, e_isi_list_iL, e_isis_iL, e_isN_iL, e_nisN_iL, e_res_iT, e_len_iT, e_idx_iT, e_seq_iT, e_isi_int_iT, e_isi_bool_iT, e_isi_str_iT, e_isi_tuple_iT, e_isi_list_iT, e_isis_iT, e_isN_iT, e_nisN_iT, e_res_sL, e_len_sL, e_idx_sL, e_seq_sL, e_isi_int_sL, e_isi_bool_sL, e_isi_str_sL, e_isi_tuple_sL, e_isi_list_sL, e_isis_sL, e_isN_sL, e_nisN_sL, e_res_sT, e_len_sT, e_idx_sT, e_seq_sT, e_isi_int_sT, e_isi_bool_sT, e_isi_str_sT, e_isi_tuple_sT, e_isi_list_sT, e_isis_sT, e_isN_sT, e_nisN_sT, e_tuple_iL, e_list_iL, e_app_iL, e_tuple_iT, e_list_iT, e_appT_iL, e_tuple_sL, e_list_sL, e_app_sL, e_tuple_sT, e_list_sT, e_appT_sL, e_tuple_stL, e_list_stL, e_app_stL, e_tuple_dMode, e_list_dMode, e_appT_stL, e_resS, e_lenS, e_idx0, e_idx1, e_setS, e_all, e_srtS, ok_step, ok_mode, ok_stL, ok_plan, ok_iL, ok_iT, ok_sL, ok_sT, cm_step, cm_mode, cm_stL, cm_plan, cm_iL, cm_iT, cm_sL, cm_sT, eq_sL, eq_iL, eqD_int, eqD_str, e_isi_int_S, e_isi_bool_S, e_isi_str_S, e_isi_tuple_S, e_isi_list_S, it1_eq, it2_eq, itN_int, frzN_int, itN_str, frzN_str, itN_tup, frzN_tup, itN_lst, frzN_lst, itN_dPlan, frzN_dPlan, itN_dMode, frzN_dMode, itN_stL, frzN_stL, itN_iL, frzN_iL, itN_iT, frzN_iT, itN_sL, frzN_sL, itN_sT, frzN_sT, itN_dStep, frzN_dStep, frz_eq, frzN_loc, res_loc, dBools_bl, dInts_int, E_law_F0, E_law_F1, E_law_F2, E_law_F3, E_law_F4, h1, h2, k1, k2, tab0_c, nm_8, cm_s 59]
theorem law_ok (ns : List Int) (hns : ns.length ≤ 63) : F_law [.scr ns] = .ok (.bl true) := by
  have i1 := lawPlan_is ns 10 6 (by omega)
  have e1 := lplan_ok ns 10 6 (by omega) (by omega)
  generalize lawPlan ns 10 6 = p at i1 e1
  generalize butsOf ns 10 = B at i1
  have p1 := pick_ok ns 100 6 (by omega) (by omega)
  have p2 := pick_ok ns 101 6 (by omega) (by omega)
  obtain ⟨bad, hb, c1⟩ := at_of (xs := bads p) (n := 6) rfl (pick_lt ns 100 (many := 6) (by omega))
  obtain ⟨od, ho, c2⟩ := at_of (xs := odds) (n := 6) rfl (pick_lt ns 101 (many := 6) (by omega))
  generalize pick ns 100 6 = k1 at p1 c1
  generalize pick ns 101 6 = k2 at p2 c2
  have hbad := bads_no p bad hb
  obtain ⟨l2, a2⟩ := ld_odd i1 od ho
  have o1 : okN 60 (dPlan p) = true := ok_plan 56 p
  have o3 := hbad.ok
  have l1 := ld_no hbad a2
  have n0 : ∀ n : Nat, n ≤ 10 → n ≤ sizeLine := fun n h => by have := sizeLine_big; omega
  have f0 := hbad.frz
  have f1 := hbad.res
  have b1 := fun t rest => turn_ok (c := 0) (by decide) nm_0 l1 o3 a2 (some (.scr ns)) (some (dPlan p)) (some bad) none t rest
  have b2 := fun t rest => turn_ok (c := 7) (by decide) nm_7 l2 o1 a2 (some (.scr ns)) (some (dPlan p)) (some bad) none t rest
  obtain ⟨t1, r1, b1⟩ := b1 none []
  obtain ⟨t2, r2, b2⟩ := b2 t1 r1
  have g : ∀ o ∈ offs, ∀ a x y u v w S, evS E_law t_law_b2 [a, some (dPlan p), x, y, some o, u, v, w] (.tab :: S) = .nx [a, some (dPlan p), x, y, some o, u, v, w] (.tab :: S) := fun o ho a x y u v w S => off_ok i1 ho a x y u v w S
  have g0 := g (.int (-1)) (by simp [offs])
  have g1 := g (.int 41) (by simp [offs])
  have g2 := g .non (by simp [offs])
  have g3 := g (.bl true) (by simp [offs])
  have g4 := g (.str "1") (by simp [offs])
  have g5 := g (.tup [.int 1]) (by simp [offs])
  have c1' : atI [D.non, .tup [], .tup [.tup []], .tup [.tup [.tup [.int 1, .str ""]]], .lst (p.map dMode), .int 5] k1 = some bad := c1
  have c2' : atI [D.str "", .str "A", .str "abcdefg", .non, .int 5, .tup [.str "go"]] k2 = some od := c2
  have ll : evX1 .list (dPlan p) = some (p.map dMode) := rfl
  have q1 := cr_one
  unfold F_law runLaw
  simp only [t_law, t_law_f1, t_law_f2, res_non, res_bl, res_int, res_str, res_tup, res_lst, res_scr, res_dK, bind_ok, bind_ex, bind_no, opt_some, opt_none, v_add, v_addL, v_addT, v_addS, v_sub, v_mul, v_mulL, v_fdiv, v_mod, v_eq, v_ne, v_lt, v_le, v_gt, v_ge, v_idxL, v_idxT, v_idxS, v_inS, v_ninS, v_inL, v_ninL, v_isN_non, v_nisN_non, v_isN_bl, v_nisN_bl, v_isN_int, v_nisN_int, v_isN_str, v_nisN_str, v_isN_tup, v_nisN_tup, v_isN_lst, v_nisN_lst, v_isN_scr, v_nisN_scr, v_isN_dK, v_nisN_dK, v_isB, v_nisB, u_lenL, u_lenT, u_lenC, u_lenD, u_neg, u_all, u_any, u_sum, u_tupL, u_tupT, u_tupR, u_intB, u_isi_int_non, u_isi_int_bl, u_isi_int_int, u_isi_int_str, u_isi_int_tup, u_isi_int_lst, u_isi_int_scr, u_isi_int_dK, u_isi_bool_non, u_isi_bool_bl, u_isi_bool_int, u_isi_bool_str, u_isi_bool_tup, u_isi_bool_lst, u_isi_bool_scr, u_isi_bool_dK, u_isi_str_non, u_isi_str_bl, u_isi_str_int, u_isi_str_str, u_isi_str_tup, u_isi_str_lst, u_isi_str_scr, u_isi_str_dK, u_isi_tuple_non, u_isi_tuple_bl, u_isi_tuple_int, u_isi_tuple_str, u_isi_tuple_tup, u_isi_tuple_lst, u_isi_tuple_scr, u_isi_tuple_dK, u_isi_list_non, u_isi_list_bl, u_isi_list_int, u_isi_list_str, u_isi_list_tup, u_isi_list_lst, u_isi_list_scr, u_isi_list_dK, u_isis_lt_non, u_isis_lt_bl, u_isis_lt_int, u_isis_lt_str, u_isis_lt_tup, u_isis_lt_lst, u_isis_lt_scr, u_isis_lt_dK, w_listL, w_listT, w_listR, w_srtS, w_srt, y_seqL, y_seqT, y_rng, y_chars, s_n, s_t, s_nil, s_cons, c_F0, c_F1, c_F2, c_F3, c_F4, c_F5, c_F6, c_F7, c_F8, c_F9, c_F10, c_F11, c_G0, c_G1, c_G2, c_G3, c_G4, nilT, nil_v, nil_k, nil_g, nil_o1, nil_o2, nil_and, nil_or, nil_not, nil_ch, nil_call, kn_non, km_non, kn_bl, km_bl, kn_int, km_int, kn_str, km_str, kn_scr, km_scr, kn_tup, kn_lst, km_tup, km_lst, evS, evE, evA, evX, eqB, callP, partI, slotLoc, isLst, appL, Option.map_some, Option.map_none, Option.bind_some, List.getElem?_cons_zero, List.getElem?_cons_succ, List.map_cons, List.map_nil, List.length_cons, List.length_nil, List.set_cons_zero, List.set_cons_succ, List.cons_append, List.nil_append, List.replicate_succ, List.replicate_zero, Nat.zero_add, Nat.reduceAdd, Nat.reduceSub, Nat.reduceLT, Int.reduceLT, Int.reduceLE, Int.reduceNeg, eq_self, and_self, and_true, true_and, Nat.reduceLeDiff, if_true, Bool.false_eq_true, if_false, ite_true, ite_false, decide_true, decide_false, Bool.not_true, Bool.not_false, Bool.and_true, Bool.true_and, wipeR, List.all_cons, List.all_nil, at_n, at_0, at_1, at_2, at_l, e_res_dPlan, e_len_dPlan, e_idx_dPlan, e_seq_dPlan, e_isi_int_dPlan, e_isi_bool_dPlan, e_isi_str_dPlan, e_isi_tuple_dPlan, e_isi_list_dPlan, e_isis_dPlan, e_isN_dPlan, e_nisN_dPlan, e_res_dMode, e_len_dMode, e_idx_dMode, e_seq_dMode, e_isi_int_dMode, e_isi_bool_dMode, e_isi_str_dMode, e_isi_tuple_dMode, e_isi_list_dMode, e_isis_dMode, e_isN_dMode, e_nisN_dMode, e_res_stL, e_len_stL, e_idx_stL, e_seq_stL, e_isi_int_stL, e_isi_bool_stL, e_isi_str_stL, e_isi_tuple_stL, e_isi_list_stL, e_isis_stL, e_isN_stL, e_nisN_stL, e_res_iL, e_len_iL, e_idx_iL, e_seq_iL, e_isi_int_iL, e_isi_bool_iL, e_isi_str_iL, e_isi_tuple_iL, e_isi_list_iL, e_isis_iL, e_isN_iL, e_nisN_iL, e_res_iT, e_len_iT, e_idx_iT, e_seq_iT, e_isi_int_iT, e_isi_bool_iT, e_isi_str_iT, e_isi_tuple_iT, e_isi_list_iT, e_isis_iT, e_isN_iT, e_nisN_iT, e_res_sL, e_len_sL, e_idx_sL, e_seq_sL, e_isi_int_sL, e_isi_bool_sL, e_isi_str_sL, e_isi_tuple_sL, e_isi_list_sL, e_isis_sL, e_isN_sL, e_nisN_sL, e_res_sT, e_len_sT, e_idx_sT, e_seq_sT, e_isi_int_sT, e_isi_bool_sT, e_isi_str_sT, e_isi_tuple_sT, e_isi_list_sT, e_isis_sT, e_isN_sT, e_nisN_sT, e_tuple_iL, e_list_iL, e_app_iL, e_tuple_iT, e_list_iT, e_appT_iL, e_tuple_sL, e_list_sL, e_app_sL, e_tuple_sT, e_list_sT, e_appT_sL, e_tuple_stL, e_list_stL, e_app_stL, e_tuple_dMode, e_list_dMode, e_appT_stL, e_resS, e_lenS, e_idx0, e_idx1, e_setS, e_all, e_srtS, ok_step, ok_mode, ok_stL, ok_plan, ok_iL, ok_iT, ok_sL, ok_sT, cm_step, cm_mode, cm_stL, cm_plan, cm_iL, cm_iT, cm_sL, cm_sT, eq_sL, eq_iL, eqD_int, eqD_str, e_isi_int_S, e_isi_bool_S, e_isi_str_S, e_isi_tuple_S, e_isi_list_S, it1_eq, it2_eq, itN_int, frzN_int, itN_str, frzN_str, itN_tup, frzN_tup, itN_lst, frzN_lst, itN_dPlan, frzN_dPlan, itN_dMode, frzN_dMode, itN_stL, frzN_stL, itN_iL, frzN_iL, itN_iT, frzN_iT, itN_sL, frzN_sL, itN_sT, frzN_sT, itN_dStep, frzN_dStep, frz_eq, frzN_loc, res_loc, dBools_bl, dInts_int, E_law_F0, E_law_F1, E_law_F2, E_law_F3, E_law_F4, e1, p1, p2, c1', c2', ll, n0 0 (by omega), n0 1 (by omega), n0 2 (by omega), n0 3 (by omega), n0 6 (by omega), forL, b1, b2, g0, g1, g2, g3, g4, g5, q1, tab0_c, o1, o3, a2, cm_s 59, (show okN 59 (.tup [.tup [.int 0, .str "go"]]) = true from rfl)]
end K77

namespace K77
open PySem PySem.Spec L2 Bp
def top (i : Nat) : Stmt := PySem.Challenge.pw_buttonplans_k77_chances_refused.main.body.getD i (.Pass ⟨0, 0, 0, 0⟩)
def dfs : List (Str × Nat) := [("is_whole", 18), ("is_deed", 19), ("is_step", 20), ("is_plan", 21), ("look_plan", 22), ("rows_from", 24), ("lowest", 26), ("minus", 27), ("times", 28), ("over", 29), ("solved", 30), ("look_deed", 31), ("count_rows", 32), ("can_do", 34), ("doers", 33), ("sums_from", 35), ("chance_in", 36), ("chance_of", 37), ("mean_presses", 38), ("_law_cell", 40), ("_law_pick", 41), ("_law_plan", 42), ("law", 45), ("_law_name", 43), ("_law_told", 44)]
def mkD (p : Str × Nat) : He.DefD := ⟨(p.1, none), p.1, p.1, defArgs (top p.2), defBody (top p.2), defScope (top p.2), [], []⟩
def fn : List He.DefD := dfs.map mkD
def names : List Str := ((["is_whole", "is_deed", "is_step", "is_plan", "look_plan", "rows_from", "lowest", "minus", "times", "over", "solved", "look_deed", "count_rows", "can_do", "doers", "sums_from"] : List Str) ++ (["chance_in", "chance_of", "mean_presses", "_law_cell", "_law_pick", "_law_plan", "law", "_law_name", "_law_told", "WatchError"] : List Str))
def here : List Str := ["NoPlan", "NoTells", "NoMode", "NoPress", "NoWants", "NoBack", "NoText", "NoDeed", "NoNumber", "NoKeys"]
def cs : List (Str × D) := [("LONGEST", .int 6), ("SMALL", .str "abcdefghijklmnopqrstuvwxyz"), ("MOST_MODES", .int 6), ("MOST_BUTTONS", .int 3), ("MOST_PRESSES", .int 40)]
def fa : List He.Fa := faOf names here cs
abbrev R : PySem.W.OpenRow := PySem.W.OpenLaw.row PySem.Challenge.rw_buttonplans_k77_chances_refused
def tf : List He.Defn := [("law", none)]
abbrev hk : PySem.W.Hook := He.hookX 4 fa fn [] tf exB
def ob (s : PySem.W.SharedT) : He.AlX := He.obsX 4 fa fn [] tf exB (HandSHeadRun.getT s)
theorem ob_eq (s : PySem.W.SharedT) : ob s = hk.obs s.abs := He.obsX_eq (HandSHeadRun.getT_eq s)
def loose : List Str := ((["WatchError", "NoPlan", "NoTells", "NoMode", "NoPress", "NoWants", "NoBack", "NoText", "NoDeed", "NoNumber", "NoKeys", "LONGEST", "SMALL", "MOST_MODES", "MOST_BUTTONS", "MOST_PRESSES"] : List Str) ++ (["is_whole", "is_deed", "is_step", "is_plan", "look_plan", "rows_from", "lowest", "minus", "times", "over", "solved", "look_deed", "count_rows", "doers", "can_do", "sums_from"] : List Str) ++ (["chance_in", "chance_of", "mean_presses", "_law_cell", "_law_pick", "_law_plan", "_law_name", "_law_told"] : List Str))
theorem run (w : World) : HandSHeadRun.RunEq R (PySem.W.view R.prog [45]) hk ob 6000 loose w := by
  intro os
  kernel_rfl
theorem ck_is_whole (K : PySem.W.Frag) : chkSs ⟨["thing", "low", "high"], defScope (top 18), fun _ => true, 0, [], exOf here, [], clsOf K, E_is_whole, false⟩ t_is_whole (defBody (top 18)) = true := by kernel_rfl
theorem sc_is_whole : FnScope ["thing", "low", "high"] ["thing", "low", "high"] (defScope (top 18)) := ⟨rfl, rfl, rfl, by decide +kernel, rfl, by decide +kernel, by decide +kernel⟩
theorem ck_is_deed (K : PySem.W.Frag) : chkSs ⟨["thing", "sign"], defScope (top 19), fun _ => true, 0, [], exOf here, ["LONGEST", "SMALL"], clsOf K, E_is_deed, false⟩ t_is_deed (defBody (top 19)) = true := by kernel_rfl
theorem sc_is_deed : FnScope ["thing", "sign"] ["thing"] (defScope (top 19)) := ⟨rfl, rfl, rfl, by decide +kernel, rfl, by decide +kernel, by decide +kernel⟩
theorem ck_is_step (K : PySem.W.Frag) : chkSs ⟨["thing", "many"], defScope (top 20), fun _ => true, 1, ["is_whole", "is_deed"], exOf here, [], clsOf K, E_is_step, false⟩ t_is_step (defBody (top 20)) = true := by kernel_rfl
theorem sc_is_step : FnScope ["thing", "many"] ["thing", "many"] (defScope (top 20)) := ⟨rfl, rfl, rfl, by decide +kernel, rfl, by decide +kernel, by decide +kernel⟩
theorem ck_is_plan (K : PySem.W.Frag) : chkSs ⟨["thing", "mode", "one"], defScope (top 21), fun _ => true, 2, ["is_step"], exOf here, ["MOST_MODES", "MOST_BUTTONS"], clsOf K, E_is_plan, false⟩ t_is_plan (defBody (top 21)) = true := by kernel_rfl
theorem sc_is_plan : FnScope ["thing", "mode", "one"] ["thing"] (defScope (top 21)) := ⟨rfl, rfl, rfl, by decide +kernel, rfl, by decide +kernel, by decide +kernel⟩
theorem ck_look_plan (K : PySem.W.Frag) : chkSs ⟨["plan"], defScope (top 22), fun _ => true, 3, ["is_plan"], exOf here, [], clsOf K, E_look_plan, false⟩ t_look_plan (defBody (top 22)) = true := by kernel_rfl
theorem sc_look_plan : FnScope ["plan"] ["plan"] (defScope (top 22)) := ⟨rfl, rfl, rfl, by decide +kernel, rfl, by decide +kernel, by decide +kernel⟩
theorem ck_rows_from (K : PySem.W.Frag) : chkSs ⟨["plan", "mode", "found", "left", "here", "button", "goal", "deed"], defScope (top 24), fun _ => true, 0, [], exOf here, [], clsOf K, E_rows_from, false⟩ t_rows_from (defBody (top 24)) = true := by kernel_rfl
theorem sc_rows_from : FnScope ["plan", "mode", "found", "left", "here", "button", "goal", "deed"] ["plan", "mode"] (defScope (top 24)) := ⟨rfl, rfl, rfl, by decide +kernel, rfl, by decide +kernel, by decide +kernel⟩
theorem ck_lowest (K : PySem.W.Frag) : chkSs ⟨["up", "down", "one", "other"], defScope (top 26), fun _ => true, 0, [], exOf here, [], clsOf K, E_lowest, false⟩ t_lowest (defBody (top 26)) = true := by kernel_rfl
theorem sc_lowest : FnScope ["up", "down", "one", "other"] ["up", "down"] (defScope (top 26)) := ⟨rfl, rfl, rfl, by decide +kernel, rfl, by decide +kernel, by decide +kernel⟩
theorem ck_minus (K : PySem.W.Frag) : chkSs ⟨["one", "other"], defScope (top 27), fun _ => true, 1, ["lowest"], exOf here, [], clsOf K, E_minus, false⟩ t_minus (defBody (top 27)) = true := by kernel_rfl
theorem sc_minus : FnScope ["one", "other"] ["one", "other"] (defScope (top 27)) := ⟨rfl, rfl, rfl, by decide +kernel, rfl, by decide +kernel, by decide +kernel⟩
theorem ck_times (K : PySem.W.Frag) : chkSs ⟨["one", "other"], defScope (top 28), fun _ => true, 1, ["lowest"], exOf here, [], clsOf K, E_times, false⟩ t_times (defBody (top 28)) = true := by kernel_rfl
theorem sc_times : FnScope ["one", "other"] ["one", "other"] (defScope (top 28)) := ⟨rfl, rfl, rfl, by decide +kernel, rfl, by decide +kernel, by decide +kernel⟩
theorem ck_over (K : PySem.W.Frag) : chkSs ⟨["one", "other"], defScope (top 29), fun _ => true, 1, ["lowest"], exOf here, [], clsOf K, E_over, false⟩ t_over (defBody (top 29)) = true := by kernel_rfl
theorem sc_over : FnScope ["one", "other"] ["one", "other"] (defScope (top 29)) := ⟨rfl, rfl, rfl, by decide +kernel, rfl, by decide +kernel, by decide +kernel⟩
theorem ck_solved (K : PySem.W.Frag) : chkSs ⟨["rows", "size", "at", "best", "number", "row", "part", "one", "two"], defScope (top 30), fun _ => true, 0, [], exOf here, [], clsOf K, E_solved, false⟩ t_solved (defBody (top 30)) = true := by kernel_rfl
theorem sc_solved : FnScope ["rows", "size", "at", "best", "number", "row", "part", "one", "two"] ["rows"] (defScope (top 30)) := ⟨rfl, rfl, rfl, by decide +kernel, rfl, by decide +kernel, by decide +kernel⟩
theorem ck_look_deed (K : PySem.W.Frag) : chkSs ⟨["plan", "deed"], defScope (top 31), fun _ => true, 4, ["look_plan", "is_deed"], exOf here, [], clsOf K, E_look_deed, false⟩ t_look_deed (defBody (top 31)) = true := by kernel_rfl
theorem sc_look_deed : FnScope ["plan", "deed"] ["plan", "deed"] (defScope (top 31)) := ⟨rfl, rfl, rfl, by decide +kernel, rfl, by decide +kernel, by decide +kernel⟩
theorem ck_count_rows (K : PySem.W.Frag) : chkSs ⟨["plan", "many", "deed", "often", "here", "again", "later", "ways", "mode", "done", "goal", "own", "key"], defScope (top 32), fun _ => true, 5, ["look_deed", "is_whole"], exOf here, ["MOST_PRESSES"], clsOf K, E_count_rows, false⟩ t_count_rows (defBody (top 32)) = true := by kernel_rfl
theorem sc_count_rows : FnScope ["plan", "many", "deed", "often", "here", "again", "later", "ways", "mode", "done", "goal", "own", "key"] ["plan", "many", "deed", "often"] (defScope (top 32)) := ⟨rfl, rfl, rfl, by decide +kernel, rfl, by decide +kernel, by decide +kernel⟩
theorem ck_can_do (K : PySem.W.Frag) : chkSs ⟨["plan", "mode", "deed", "here", "goal", "own"], defScope (top 34), fun _ => true, 1, ["rows_from"], exOf here, [], clsOf K, E_can_do, false⟩ t_can_do (defBody (top 34)) = true := by kernel_rfl
theorem sc_can_do : FnScope ["plan", "mode", "deed", "here", "goal", "own"] ["plan", "mode", "deed"] (defScope (top 34)) := ⟨rfl, rfl, rfl, by decide +kernel, rfl, by decide +kernel, by decide +kernel⟩
theorem ck_doers (K : PySem.W.Frag) : chkSs ⟨["plan", "deed", "mode"], defScope (top 33), fun _ => true, 2, ["can_do"], exOf here, [], clsOf K, E_doers, false⟩ t_doers (defBody (top 33)) = true := by kernel_rfl
theorem sc_doers : FnScope ["plan", "deed", "mode"] ["plan", "deed"] (defScope (top 33)) := ⟨rfl, rfl, rfl, by decide +kernel, rfl, by decide +kernel, by decide +kernel⟩
theorem ck_sums_from (K : PySem.W.Frag) : chkSs ⟨["plan", "deed", "some", "ends", "many", "rows", "mode", "row", "other", "led", "goal", "own"], defScope (top 35), fun _ => true, 2, ["minus", "lowest"], exOf here, [], clsOf K, E_sums_from, false⟩ t_sums_from (defBody (top 35)) = true := by kernel_rfl
theorem sc_sums_from : FnScope ["plan", "deed", "some", "ends", "many", "rows", "mode", "row", "other", "led", "goal", "own"] ["plan", "deed", "some", "ends"] (defScope (top 35)) := ⟨rfl, rfl, rfl, by decide +kernel, rfl, by decide +kernel, by decide +kernel⟩
theorem ck_chance_in (K : PySem.W.Frag) : chkSs ⟨["plan", "deed", "some", "many", "ends", "mode", "goal", "own"], defScope (top 36), fun _ => true, 3, ["doers", "sums_from"], exOf here, [], clsOf K, E_chance_in, false⟩ t_chance_in (defBody (top 36)) = true := by kernel_rfl
theorem sc_chance_in : FnScope ["plan", "deed", "some", "many", "ends", "mode", "goal", "own"] ["plan", "deed"] (defScope (top 36)) := ⟨rfl, rfl, rfl, by decide +kernel, rfl, by decide +kernel, by decide +kernel⟩
theorem ck_chance_of (K : PySem.W.Frag) : chkSs ⟨["plan", "deed"], defScope (top 37), fun _ => true, 5, ["look_deed", "chance_in"], exOf here, [], clsOf K, E_chance_of, false⟩ t_chance_of (defBody (top 37)) = true := by kernel_rfl
theorem sc_chance_of : FnScope ["plan", "deed"] ["plan", "deed"] (defScope (top 37)) := ⟨rfl, rfl, rfl, by decide +kernel, rfl, by decide +kernel, by decide +kernel⟩
theorem ck_mean_presses (K : PySem.W.Frag) : chkSs ⟨["plan", "deed", "some", "mode"], defScope (top 38), fun _ => true, 5, ["look_deed", "chance_in", "doers"], exOf here, [], clsOf K, E_mean_presses, false⟩ t_mean_presses (defBody (top 38)) = true := by kernel_rfl
theorem sc_mean_presses : FnScope ["plan", "deed", "some", "mode"] ["plan", "deed"] (defScope (top 38)) := ⟨rfl, rfl, rfl, by decide +kernel, rfl, by decide +kernel, by decide +kernel⟩
theorem ck_u_law_cell (K : PySem.W.Frag) : chkSs ⟨["script", "k"], defScope (top 40), fun _ => true, 0, [], exOf here, [], clsOf K, E_u_law_cell, false⟩ t_u_law_cell (defBody (top 40)) = true := by kernel_rfl
theorem sc_u_law_cell : FnScope ["script", "k"] ["script", "k"] (defScope (top 40)) := ⟨rfl, rfl, rfl, by decide +kernel, rfl, by decide +kernel, by decide +kernel⟩
theorem ck_u_law_pick (K : PySem.W.Frag) : chkSs ⟨["script", "k", "many", "drawn"], defScope (top 41), fun _ => true, 1, ["_law_cell"], exOf here, [], clsOf K, E_u_law_pick, false⟩ t_u_law_pick (defBody (top 41)) = true := by kernel_rfl
theorem sc_u_law_pick : FnScope ["script", "k", "many", "drawn"] ["script", "k", "many"] (defScope (top 41)) := ⟨rfl, rfl, rfl, by decide +kernel, rfl, by decide +kernel, by decide +kernel⟩
theorem ck_u_law_plan (K : PySem.W.Frag) : chkSs ⟨["script", "at", "most", "pool", "made", "mode", "many", "buttons", "row", "button", "here"], defScope (top 42), fun _ => true, 2, ["_law_pick"], exOf here, [], clsOf K, E_u_law_plan, false⟩ t_u_law_plan (defBody (top 42)) = true := by kernel_rfl
theorem sc_u_law_plan : FnScope ["script", "at", "most", "pool", "made", "mode", "many", "buttons", "row", "button", "here"] ["script", "at", "most"] (defScope (top 42)) := ⟨rfl, rfl, rfl, by decide +kernel, rfl, by decide +kernel, by decide +kernel⟩
theorem ck_law (K : PySem.W.Frag) : chkSs ⟨["script", "plan", "bad", "odd", "off", "own", "due", "told"], defScope (top 45), fun _ => true, 8, ["_law_plan", "_law_pick", "count_rows", "chance_of", "mean_presses"], exOf here, [], clsOf K, E_law, true⟩ t_law (defBody (top 45)) = true := by kernel_rfl
theorem sc_law : FnScope ["script", "plan", "bad", "odd", "off", "own", "due", "told"] ["script"] (defScope (top 45)) := ⟨rfl, rfl, rfl, by decide +kernel, rfl, by decide +kernel, by decide +kernel⟩
theorem sc_name : FnScope nmN ["kept"] (defScope (top 43)) := ⟨rfl, rfl, rfl, by decide +kernel, rfl, by decide +kernel, by decide +kernel⟩
theorem sc_told : FnScope toN ["deed"] (defScope (top 44)) := ⟨rfl, rfl, rfl, by decide +kernel, rfl, by decide +kernel, by decide +kernel⟩
theorem nb_name : nameB (defBody (top 43)) = true := by kernel_rfl
theorem nb_told : toldB (defBody (top 44)) = true := by kernel_rfl
theorem facts {w : World} {K : PySem.W.Frag} {h : Heap} {mg : Str → Option Value} {f : Addr} (X : K.In h) (G : h.Ns mainGlobals mg) (hfa : mg ("law" : Str) = some (.ref f)) (c : He.SaysX fa fn [] tf exB w h K) (hl : ∀ ns : List Int, ns.length ≤ 63 → F_law [.scr ns] = .ok (.bl true)) :
    LamX.LawAtS PySem.Challenge.rw_buttonplans_k77_chances_refused w K (L2.CX PySem.Challenge.rw_buttonplans_k77_chances_refused.prog w) 9 63 "script" mg f h := by
  have cd := c.t.d
  have Z : Base K mg here := base_of X G cd
  have c_LONGEST : Con K mg "LONGEST" (.int 6) := conI_of X G cd (List.mem_of_getElem? (i := 0) rfl)
  have c_SMALL : Con K mg "SMALL" (.str "abcdefghijklmnopqrstuvwxyz") := conS_of X G cd (by decide +kernel) (List.mem_of_getElem? (i := 1) rfl)
  have c_MOST_MODES : Con K mg "MOST_MODES" (.int 6) := conI_of X G cd (List.mem_of_getElem? (i := 2) rfl)
  have c_MOST_BUTTONS : Con K mg "MOST_BUTTONS" (.int 3) := conI_of X G cd (List.mem_of_getElem? (i := 3) rfl)
  have c_MOST_PRESSES : Con K mg "MOST_PRESSES" (.int 40) := conI_of X G cd (List.mem_of_getElem? (i := 4) rfl)
  obtain ⟨d_is_whole, D_is_whole⟩ := cd.def_ 0 (d := mkD ("is_whole", 18)) rfl
  have b_is_whole : Binds K d_is_whole ["thing", "low", "high"] [] := D_is_whole.bindsN fun _ _ _ _ _ _ us hl => match us, hl with | [_, _, _], _ => rfl
  obtain ⟨d_is_deed, D_is_deed⟩ := cd.def_ 1 (d := mkD ("is_deed", 19)) rfl
  have b_is_deed : Binds K d_is_deed ["thing"] [] := D_is_deed.bindsN fun _ _ _ _ _ _ us hl => match us, hl with | [_], _ => rfl
  obtain ⟨d_is_step, D_is_step⟩ := cd.def_ 2 (d := mkD ("is_step", 20)) rfl
  have b_is_step : Binds K d_is_step ["thing", "many"] [] := D_is_step.bindsN fun _ _ _ _ _ _ us hl => match us, hl with | [_, _], _ => rfl
  obtain ⟨d_is_plan, D_is_plan⟩ := cd.def_ 3 (d := mkD ("is_plan", 21)) rfl
  have b_is_plan : Binds K d_is_plan ["thing"] [] := D_is_plan.bindsN fun _ _ _ _ _ _ us hl => match us, hl with | [_], _ => rfl
  obtain ⟨d_look_plan, D_look_plan⟩ := cd.def_ 4 (d := mkD ("look_plan", 22)) rfl
  have b_look_plan : Binds K d_look_plan ["plan"] [] := D_look_plan.bindsN fun _ _ _ _ _ _ us hl => match us, hl with | [_], _ => rfl
  obtain ⟨d_rows_from, D_rows_from⟩ := cd.def_ 5 (d := mkD ("rows_from", 24)) rfl
  have b_rows_from : Binds K d_rows_from ["plan", "mode"] [] := D_rows_from.bindsN fun _ _ _ _ _ _ us hl => match us, hl with | [_, _], _ => rfl
  obtain ⟨d_lowest, D_lowest⟩ := cd.def_ 6 (d := mkD ("lowest", 26)) rfl
  have b_lowest : Binds K d_lowest ["up", "down"] [] := D_lowest.bindsN fun _ _ _ _ _ _ us hl => match us, hl with | [_, _], _ => rfl
  obtain ⟨d_minus, D_minus⟩ := cd.def_ 7 (d := mkD ("minus", 27)) rfl
  have b_minus : Binds K d_minus ["one", "other"] [] := D_minus.bindsN fun _ _ _ _ _ _ us hl => match us, hl with | [_, _], _ => rfl
  obtain ⟨d_times, D_times⟩ := cd.def_ 8 (d := mkD ("times", 28)) rfl
  have b_times : Binds K d_times ["one", "other"] [] := D_times.bindsN fun _ _ _ _ _ _ us hl => match us, hl with | [_, _], _ => rfl
  obtain ⟨d_over, D_over⟩ := cd.def_ 9 (d := mkD ("over", 29)) rfl
  have b_over : Binds K d_over ["one", "other"] [] := D_over.bindsN fun _ _ _ _ _ _ us hl => match us, hl with | [_, _], _ => rfl
  obtain ⟨d_solved, D_solved⟩ := cd.def_ 10 (d := mkD ("solved", 30)) rfl
  have b_solved : Binds K d_solved ["rows"] [] := D_solved.bindsN fun _ _ _ _ _ _ us hl => match us, hl with | [_], _ => rfl
  obtain ⟨d_look_deed, D_look_deed⟩ := cd.def_ 11 (d := mkD ("look_deed", 31)) rfl
  have b_look_deed : Binds K d_look_deed ["plan", "deed"] [] := D_look_deed.bindsN fun _ _ _ _ _ _ us hl => match us, hl with | [_, _], _ => rfl
  obtain ⟨d_count_rows, D_count_rows⟩ := cd.def_ 12 (d := mkD ("count_rows", 32)) rfl
  have b_count_rows : Binds K d_count_rows ["plan", "many", "deed", "often"] [] := D_count_rows.bindsN fun _ _ _ _ _ _ us hl => match us, hl with | [_, _, _, _], _ => rfl
  obtain ⟨d_can_do, D_can_do⟩ := cd.def_ 13 (d := mkD ("can_do", 34)) rfl
  have b_can_do : Binds K d_can_do ["plan", "mode", "deed"] [] := D_can_do.bindsN fun _ _ _ _ _ _ us hl => match us, hl with | [_, _, _], _ => rfl
  obtain ⟨d_doers, D_doers⟩ := cd.def_ 14 (d := mkD ("doers", 33)) rfl
  have b_doers : Binds K d_doers ["plan", "deed"] [] := D_doers.bindsN fun _ _ _ _ _ _ us hl => match us, hl with | [_, _], _ => rfl
  obtain ⟨d_sums_from, D_sums_from⟩ := cd.def_ 15 (d := mkD ("sums_from", 35)) rfl
  have b_sums_from : Binds K d_sums_from ["plan", "deed", "some", "ends"] [] := D_sums_from.bindsN fun _ _ _ _ _ _ us hl => match us, hl with | [_, _, _, _], _ => rfl
  obtain ⟨d_chance_in, D_chance_in⟩ := cd.def_ 16 (d := mkD ("chance_in", 36)) rfl
  have b_chance_in : Binds K d_chance_in ["plan", "deed"] [] := D_chance_in.bindsN fun _ _ _ _ _ _ us hl => match us, hl with | [_, _], _ => rfl
  obtain ⟨d_chance_of, D_chance_of⟩ := cd.def_ 17 (d := mkD ("chance_of", 37)) rfl
  have b_chance_of : Binds K d_chance_of ["plan", "deed"] [] := D_chance_of.bindsN fun _ _ _ _ _ _ us hl => match us, hl with | [_, _], _ => rfl
  obtain ⟨d_mean_presses, D_mean_presses⟩ := cd.def_ 18 (d := mkD ("mean_presses", 38)) rfl
  have b_mean_presses : Binds K d_mean_presses ["plan", "deed"] [] := D_mean_presses.bindsN fun _ _ _ _ _ _ us hl => match us, hl with | [_, _], _ => rfl
  obtain ⟨d_u_law_cell, D_u_law_cell⟩ := cd.def_ 19 (d := mkD ("_law_cell", 40)) rfl
  have b_u_law_cell : Binds K d_u_law_cell ["script", "k"] [] := D_u_law_cell.bindsN fun _ _ _ _ _ _ us hl => match us, hl with | [_, _], _ => rfl
  obtain ⟨d_u_law_pick, D_u_law_pick⟩ := cd.def_ 20 (d := mkD ("_law_pick", 41)) rfl
  have b_u_law_pick : Binds K d_u_law_pick ["script", "k", "many"] [] := D_u_law_pick.bindsN fun _ _ _ _ _ _ us hl => match us, hl with | [_, _, _], _ => rfl
  obtain ⟨d_u_law_plan, D_u_law_plan⟩ := cd.def_ 21 (d := mkD ("_law_plan", 42)) rfl
  have b_u_law_plan : Binds K d_u_law_plan ["script", "at", "most"] [] := D_u_law_plan.bindsN fun _ _ _ _ _ _ us hl => match us, hl with | [_, _, _], _ => rfl
  obtain ⟨d_law, D_law⟩ := cd.def_ 22 (d := mkD ("law", 45)) rfl
  have b_law : Binds K d_law ["script"] [] := D_law.bindsN fun _ _ _ _ _ _ us hl => match us, hl with | [_], _ => rfl
  obtain ⟨d_u_law_name, D_u_law_name⟩ := cd.def_ 23 (d := mkD ("_law_name", 43)) rfl
  have b_u_law_name : Binds K d_u_law_name ["kept"] [] := D_u_law_name.bindsN fun _ _ _ _ _ _ us hl => match us, hl with | [_], _ => rfl
  obtain ⟨d_u_law_told, D_u_law_told⟩ := cd.def_ 24 (d := mkD ("_law_told", 44)) rfl
  have b_u_law_told : Binds K d_u_law_told ["deed"] [] := D_u_law_told.bindsN fun _ _ _ _ _ _ us hl => match us, hl with | [_], _ => rfl
  have e := hfa.symm.trans (glo_of X G cd (x := "law") (by decide +kernel))
  cases e
  have b := FunD.bindsA (ps := ["script"]) D_law fun _ _ _ _ _ _ us hl => match us, hl with | [_], _ => rfl
  have TF : ToFacts K mg := mkTo Z (by decide +kernel) (glo_of X G cd (by decide +kernel)) D_u_law_name (glo_of X G cd (by decide +kernel)) b_u_law_name sc_name nb_name (by decide +kernel) (by decide +kernel) c.more
  have ht : ((("law" : Str), none) : He.Defn) ∈ tf := List.mem_singleton.mpr rfl
  refine ⟨d_law, [He.cT K ("law", none)], spLawT K, fun p hp => ?_, fun p hp => ?_, fun p hp => ?_, fun s v => b s [v] rfl, fun H a ns hn _ hH hS => ⟨a, ns, rfl, hS, hn, hH _ (List.mem_singleton.mpr rfl), fun _ => rfl⟩, fun base KB GB TB => ?_⟩
  · rw [List.mem_singleton.mp hp]; exact c.empty _ ht
  · rw [List.mem_singleton.mp hp]; exact c.out _ ht
  · rw [List.mem_singleton.mp hp]; exact PySem.W.codeHd_of_K X (c.hd _ ht)
  have h_is_whole : Has PySem.Challenge.rw_buttonplans_k77_chances_refused.prog w K mg base 1 "is_whole" F_is_whole := mkHas Z t_is_whole ["thing", "low", "high"] ["thing", "low", "high"] [] [] E_is_whole 0 D_is_whole (glo_of X G cd (by decide +kernel)) b_is_whole sc_is_whole (ck_is_whole K) trivial trivial
  have h_is_deed : Has PySem.Challenge.rw_buttonplans_k77_chances_refused.prog w K mg base 1 "is_deed" F_is_deed := mkHas Z t_is_deed ["thing", "sign"] ["thing"] [] ["LONGEST", "SMALL"] E_is_deed 0 D_is_deed (glo_of X G cd (by decide +kernel)) b_is_deed sc_is_deed (ck_is_deed K) trivial ⟨c_LONGEST, c_SMALL, trivial⟩
  have h_is_step : Has PySem.Challenge.rw_buttonplans_k77_chances_refused.prog w K mg base 2 "is_step" F_is_step := mkHas Z t_is_step ["thing", "many"] ["thing", "many"] ["is_whole", "is_deed"] [] E_is_step 1 D_is_step (glo_of X G cd (by decide +kernel)) b_is_step sc_is_step (ck_is_step K) ⟨h_is_whole.up (by decide), h_is_deed.up (by decide), trivial⟩ trivial
  have h_is_plan : Has PySem.Challenge.rw_buttonplans_k77_chances_refused.prog w K mg base 3 "is_plan" F_is_plan := mkHas Z t_is_plan ["thing", "mode", "one"] ["thing"] ["is_step"] ["MOST_MODES", "MOST_BUTTONS"] E_is_plan 2 D_is_plan (glo_of X G cd (by decide +kernel)) b_is_plan sc_is_plan (ck_is_plan K) ⟨h_is_step.up (by decide), trivial⟩ ⟨c_MOST_MODES, c_MOST_BUTTONS, trivial⟩
  have h_look_plan : Has PySem.Challenge.rw_buttonplans_k77_chances_refused.prog w K mg base 4 "look_plan" F_look_plan := mkHas Z t_look_plan ["plan"] ["plan"] ["is_plan"] [] E_look_plan 3 D_look_plan (glo_of X G cd (by decide +kernel)) b_look_plan sc_look_plan (ck_look_plan K) ⟨h_is_plan.up (by decide), trivial⟩ trivial
  have h_rows_from : Has PySem.Challenge.rw_buttonplans_k77_chances_refused.prog w K mg base 1 "rows_from" F_rows_from := mkHas Z t_rows_from ["plan", "mode", "found", "left", "here", "button", "goal", "deed"] ["plan", "mode"] [] [] E_rows_from 0 D_rows_from (glo_of X G cd (by decide +kernel)) b_rows_from sc_rows_from (ck_rows_from K) trivial trivial
  have h_lowest : Has PySem.Challenge.rw_buttonplans_k77_chances_refused.prog w K mg base 1 "lowest" F_lowest := mkHas Z t_lowest ["up", "down", "one", "other"] ["up", "down"] [] [] E_lowest 0 D_lowest (glo_of X G cd (by decide +kernel)) b_lowest sc_lowest (ck_lowest K) trivial trivial
  have h_minus : Has PySem.Challenge.rw_buttonplans_k77_chances_refused.prog w K mg base 2 "minus" F_minus := mkHas Z t_minus ["one", "other"] ["one", "other"] ["lowest"] [] E_minus 1 D_minus (glo_of X G cd (by decide +kernel)) b_minus sc_minus (ck_minus K) ⟨h_lowest.up (by decide), trivial⟩ trivial
  have h_times : Has PySem.Challenge.rw_buttonplans_k77_chances_refused.prog w K mg base 2 "times" F_times := mkHas Z t_times ["one", "other"] ["one", "other"] ["lowest"] [] E_times 1 D_times (glo_of X G cd (by decide +kernel)) b_times sc_times (ck_times K) ⟨h_lowest.up (by decide), trivial⟩ trivial
  have h_over : Has PySem.Challenge.rw_buttonplans_k77_chances_refused.prog w K mg base 2 "over" F_over := mkHas Z t_over ["one", "other"] ["one", "other"] ["lowest"] [] E_over 1 D_over (glo_of X G cd (by decide +kernel)) b_over sc_over (ck_over K) ⟨h_lowest.up (by decide), trivial⟩ trivial
  have h_solved : Has PySem.Challenge.rw_buttonplans_k77_chances_refused.prog w K mg base 1 "solved" F_solved := mkHas Z t_solved ["rows", "size", "at", "best", "number", "row", "part", "one", "two"] ["rows"] [] [] E_solved 0 D_solved (glo_of X G cd (by decide +kernel)) b_solved sc_solved (ck_solved K) trivial trivial
  have h_look_deed : Has PySem.Challenge.rw_buttonplans_k77_chances_refused.prog w K mg base 5 "look_deed" F_look_deed := mkHas Z t_look_deed ["plan", "deed"] ["plan", "deed"] ["look_plan", "is_deed"] [] E_look_deed 4 D_look_deed (glo_of X G cd (by decide +kernel)) b_look_deed sc_look_deed (ck_look_deed K) ⟨h_look_plan.up (by decide), h_is_deed.up (by decide), trivial⟩ trivial
  have h_count_rows : Has PySem.Challenge.rw_buttonplans_k77_chances_refused.prog w K mg base 6 "count_rows" F_count_rows := mkHas Z t_count_rows ["plan", "many", "deed", "often", "here", "again", "later", "ways", "mode", "done", "goal", "own", "key"] ["plan", "many", "deed", "often"] ["look_deed", "is_whole"] ["MOST_PRESSES"] E_count_rows 5 D_count_rows (glo_of X G cd (by decide +kernel)) b_count_rows sc_count_rows (ck_count_rows K) ⟨h_look_deed.up (by decide), h_is_whole.up (by decide), trivial⟩ ⟨c_MOST_PRESSES, trivial⟩
  have h_can_do : Has PySem.Challenge.rw_buttonplans_k77_chances_refused.prog w K mg base 2 "can_do" F_can_do := mkHas Z t_can_do ["plan", "mode", "deed", "here", "goal", "own"] ["plan", "mode", "deed"] ["rows_from"] [] E_can_do 1 D_can_do (glo_of X G cd (by decide +kernel)) b_can_do sc_can_do (ck_can_do K) ⟨h_rows_from.up (by decide), trivial⟩ trivial
  have h_doers : Has PySem.Challenge.rw_buttonplans_k77_chances_refused.prog w K mg base 3 "doers" F_doers := mkHas Z t_doers ["plan", "deed", "mode"] ["plan", "deed"] ["can_do"] [] E_doers 2 D_doers (glo_of X G cd (by decide +kernel)) b_doers sc_doers (ck_doers K) ⟨h_can_do.up (by decide), trivial⟩ trivial
  have h_sums_from : Has PySem.Challenge.rw_buttonplans_k77_chances_refused.prog w K mg base 3 "sums_from" F_sums_from := mkHas Z t_sums_from ["plan", "deed", "some", "ends", "many", "rows", "mode", "row", "other", "led", "goal", "own"] ["plan", "deed", "some", "ends"] ["minus", "lowest"] [] E_sums_from 2 D_sums_from (glo_of X G cd (by decide +kernel)) b_sums_from sc_sums_from (ck_sums_from K) ⟨h_minus.up (by decide), h_lowest.up (by decide), trivial⟩ trivial
  have h_chance_in : Has PySem.Challenge.rw_buttonplans_k77_chances_refused.prog w K mg base 4 "chance_in" F_chance_in := mkHas Z t_chance_in ["plan", "deed", "some", "many", "ends", "mode", "goal", "own"] ["plan", "deed"] ["doers", "sums_from"] [] E_chance_in 3 D_chance_in (glo_of X G cd (by decide +kernel)) b_chance_in sc_chance_in (ck_chance_in K) ⟨h_doers.up (by decide), h_sums_from.up (by decide), trivial⟩ trivial
  have h_chance_of : Has PySem.Challenge.rw_buttonplans_k77_chances_refused.prog w K mg base 6 "chance_of" F_chance_of := mkHas Z t_chance_of ["plan", "deed"] ["plan", "deed"] ["look_deed", "chance_in"] [] E_chance_of 5 D_chance_of (glo_of X G cd (by decide +kernel)) b_chance_of sc_chance_of (ck_chance_of K) ⟨h_look_deed.up (by decide), h_chance_in.up (by decide), trivial⟩ trivial
  have h_mean_presses : Has PySem.Challenge.rw_buttonplans_k77_chances_refused.prog w K mg base 6 "mean_presses" F_mean_presses := mkHas Z t_mean_presses ["plan", "deed", "some", "mode"] ["plan", "deed"] ["look_deed", "chance_in", "doers"] [] E_mean_presses 5 D_mean_presses (glo_of X G cd (by decide +kernel)) b_mean_presses sc_mean_presses (ck_mean_presses K) ⟨h_look_deed.up (by decide), h_chance_in.up (by decide), h_doers.up (by decide), trivial⟩ trivial
  have h_u_law_cell : Has PySem.Challenge.rw_buttonplans_k77_chances_refused.prog w K mg base 1 "_law_cell" F_u_law_cell := mkHas Z t_u_law_cell ["script", "k"] ["script", "k"] [] [] E_u_law_cell 0 D_u_law_cell (glo_of X G cd (by decide +kernel)) b_u_law_cell sc_u_law_cell (ck_u_law_cell K) trivial trivial
  have h_u_law_pick : Has PySem.Challenge.rw_buttonplans_k77_chances_refused.prog w K mg base 2 "_law_pick" F_u_law_pick := mkHas Z t_u_law_pick ["script", "k", "many", "drawn"] ["script", "k", "many"] ["_law_cell"] [] E_u_law_pick 1 D_u_law_pick (glo_of X G cd (by decide +kernel)) b_u_law_pick sc_u_law_pick (ck_u_law_pick K) ⟨h_u_law_cell.up (by decide), trivial⟩ trivial
  have h_u_law_plan : Has PySem.Challenge.rw_buttonplans_k77_chances_refused.prog w K mg base 3 "_law_plan" F_u_law_plan := mkHas Z t_u_law_plan ["script", "at", "most", "pool", "made", "mode", "many", "buttons", "row", "button", "here"] ["script", "at", "most"] ["_law_pick"] [] E_u_law_plan 2 D_u_law_plan (glo_of X G cd (by decide +kernel)) b_u_law_plan sc_u_law_plan (ck_u_law_plan K) ⟨h_u_law_pick.up (by decide), trivial⟩ trivial
  exact mkLawT Z t_law ["script", "plan", "bad", "odd", "off", "own", "due", "told"] ["_law_plan", "_law_pick", "count_rows", "chance_of", "mean_presses"] [] E_law 6 D_law rfl sc_law (ck_law K) ⟨h_u_law_plan.up (by decide), h_u_law_pick.up (by decide), h_count_rows.up (by decide), h_chance_of.up (by decide), h_mean_presses.up (by decide), trivial⟩ trivial TF D_u_law_told (glo_of X G cd (by decide +kernel)) b_u_law_told sc_told nb_told (by decide +kernel) (TB _ (List.mem_singleton.mpr rfl)) hl

end K77

open PySem PySem.W PySem.Calls PyProof.Rows

theorem PySem.Challenge.cw_buttonplans_k77_chances_refused_holds : PySem.Challenge.rw_buttonplans_k77_chances_refused.Holds := by
  w_on; o_law
  refine HandSHeadRun.head_any (r := OpenLaw.row PySem.Challenge.rw_buttonplans_k77_chances_refused) (q := view (OpenLaw.row PySem.Challenge.rw_buttonplans_k77_chances_refused).prog [45]) (H := K77.hk) (ob := K77.ob) (M := 6000) (loose := K77.loose) (d := HandSHeadRun.topDef (OpenLaw.row PySem.Challenge.rw_buttonplans_k77_chances_refused).prog 45) (kwd := []) K77.ob_eq
    (by kernel_rfl) (fun s => by kernel_rfl) K77.run (by kernel_rfl) (by kernel_rfl) (by kernel_rfl) (by rfl) (by first | assumption | decide +kernel) (by decide +kernel) ⟨rfl, rfl, rfl, rfl, rfl, by decide +kernel⟩ ?hw ?hc
  case hw => w_witness2
  case hc =>
    refine LamX.walk_ofTsE (l := PySem.Challenge.rw_buttonplans_k77_chances_refused) (n := 63) (k := 9) (x := "script") (CX := fun w => L2.CX PySem.Challenge.rw_buttonplans_k77_chances_refused.prog w) rfl (by decide) (by kernel_rfl) ⟨rfl, by decide, by decide⟩ ?F (fun w H s e s' q => Bp.cx_none q)
    intro w mg fa h Y G hmg0
    obtain ⟨K, KX, c⟩ := Y
    have hmg : mg ("law" : PySem.Str) = some (.ref fa) := by
      rw [← show (HandSHeadRun.topDef (OpenLaw.row PySem.Challenge.rw_buttonplans_k77_chances_refused).prog 45).name = ("law" : PySem.Str) by kernel_rfl]
      exact hmg0
    exact ⟨K, KX, K77.facts KX G hmg c K77.law_ok⟩

