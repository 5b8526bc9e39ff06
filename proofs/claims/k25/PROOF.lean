import PyProof.Rows.All
import Wide.All
import OpenK.AllK
import Wide.FinOn
import HandS.ForMost
import HandS.WordsExc
import HandS.Wide
import HandS.TupAny
import HandS.IsInst
import HandS.RaiseMore
import HandS.SortInts
import HandS.Deep
import HandS.Text
import HandS.SortOrd
import PyProof.TupleOfSeq
import PyProof.MinMaxWalk
import PyProof.WalkInts
import KE.KSortedM
import HandS.Conv
import HandS.Zip
import HandS.DictComp
import HandS.Star
import HandS.Small
import HandS.Style
import HandS.Words
import PyProof.StrLawsRepr
import PySem.Challenge.RW_alikecrowds_k25_stretches_losses_and_one
set_option Elab.async false
set_option linter.all false
set_option Elab.async false
set_option linter.all false
set_option maxRecDepth 100000
namespace VL
open PySem L2
/-! ## values as trees -/
/-- who may change a node: its one owner; nobody any more; nobody for a while -/
inductive Fl where
  | own | frz | lnt
  deriving DecidableEq
inductive W where
  | non | bl (b : Bool) | int (i : Int) | str (x : Str)
  | tup (ws : List W)
  | lst (m : Fl) (ws : List W)
  | dct (m : Fl) (kvs : List (Key × W))
  | ins (m : Fl) (c : Nat) (fs : List (Nat × W))
/- any flag so? -/
mutual
def W.has (p : Fl → Bool) : W → Bool
  | .non => false | .bl _ => false | .int _ => false | .str _ => false
  | .tup ws => hasL p ws
  | .lst m ws => p m || hasL p ws
  | .dct m kvs => p m || hasK p kvs
  | .ins m _ fs => p m || hasF p fs
def hasL (p : Fl → Bool) : List W → Bool
  | [] => false
  | w :: r => w.has p || hasL p r
def hasK (p : Fl → Bool) : List (Key × W) → Bool
  | [] => false
  | (_, w) :: r => w.has p || hasK p r
def hasF (p : Fl → Bool) : List (Nat × W) → Bool
  | [] => false
  | (_, w) :: r => w.has p || hasF p r
end
mutual
def W.mapF (f : Fl → Fl) : W → W
  | .non => .non | .bl b => .bl b | .int i => .int i | .str x => .str x
  | .tup ws => .tup (mapL f ws)
  | .lst m ws => .lst (f m) (mapL f ws)
  | .dct m kvs => .dct (f m) (mapK f kvs)
  | .ins m c fs => .ins (f m) c (mapFs f fs)
def mapL (f : Fl → Fl) : List W → List W
  | [] => []
  | w :: r => w.mapF f :: mapL f r
def mapK (f : Fl → Fl) : List (Key × W) → List (Key × W)
  | [] => []
  | (k, w) :: r => (k, w.mapF f) :: mapK f r
def mapFs (f : Fl → Fl) : List (Nat × W) → List (Nat × W)
  | [] => []
  | (k, w) :: r => (k, w.mapF f) :: mapFs f r
end
def Fl.isOwn : Fl → Bool | .own => true | _ => false
def Fl.isLnt : Fl → Bool | .lnt => true | _ => false
def Fl.isMut : Fl → Bool | .frz => false | _ => true
def Fl.toFrz : Fl → Fl := fun _ => .frz
def Fl.toLnt : Fl → Fl | .own => .lnt | m => m
abbrev W.own? (w : W) : Bool := w.has Fl.isOwn
abbrev W.lnt? (w : W) : Bool := w.has Fl.isLnt
/-- an owned or lent node within -/
abbrev W.mut? (w : W) : Bool := w.has Fl.isMut
abbrev W.freeze (w : W) : W := w.mapF Fl.toFrz
abbrev W.lend (w : W) : W := w.mapF Fl.toLnt
theorem hasL_eq (p : Fl → Bool) : ∀ l : List W, hasL p l = l.any (W.has p)
  | [] => rfl
  | w :: r => by rw [hasL, hasL_eq p r, List.any_cons]
theorem hasK_eq (p : Fl → Bool) : ∀ l : List (Key × W), hasK p l = hasL p (l.map (·.2))
  | [] => rfl
  | (k, w) :: r => by rw [hasK, hasK_eq p r]; rfl
theorem hasF_eq (p : Fl → Bool) : ∀ l : List (Nat × W), hasF p l = hasL p (l.map (·.2))
  | [] => rfl
  | (k, w) :: r => by rw [hasF, hasF_eq p r]; rfl
theorem mapL_eq (f : Fl → Fl) : ∀ l : List W, mapL f l = l.map (W.mapF f)
  | [] => rfl
  | w :: r => by rw [mapL, mapL_eq f r]; rfl
theorem mapK_eq (f : Fl → Fl) : ∀ l : List (Key × W), mapK f l = l.map (fun p => (p.1, p.2.mapF f))
  | [] => rfl
  | (k, w) :: r => by rw [mapK, mapK_eq f r]; rfl
theorem mapFs_eq (f : Fl → Fl) : ∀ l : List (Nat × W), mapFs f l = l.map (fun p => (p.1, p.2.mapF f))
  | [] => rfl
  | (k, w) :: r => by rw [mapFs, mapFs_eq f r]; rfl
theorem mapK_snd (f : Fl → Fl) (l : List (Key × W)) : (mapK f l).map (·.2) = mapL f (l.map (·.2)) := by
  rw [mapK_eq, mapL_eq, List.map_map, List.map_map]; rfl
theorem mapK_fst (f : Fl → Fl) (l : List (Key × W)) : (mapK f l).map (·.1) = l.map (·.1) := by
  rw [mapK_eq, List.map_map]; rfl
theorem mapFs_snd (f : Fl → Fl) (l : List (Nat × W)) : (mapFs f l).map (·.2) = mapL f (l.map (·.2)) := by
  rw [mapFs_eq, mapL_eq, List.map_map, List.map_map]; rfl
theorem mapFs_fst (f : Fl → Fl) (l : List (Nat × W)) : (mapFs f l).map (·.1) = l.map (·.1) := by
  rw [mapFs_eq, List.map_map]; rfl
/-! ## parts of the abstract heap -/
abbrev emp : Hp := fun _ => none
def Sub (h g : Hp) : Prop := ∀ a o, h a = some o → g a = some o
def Dj (h g : Hp) : Prop := ∀ a, h a = none ∨ g a = none
def join (h g : Hp) : Hp := fun a => (h a).or (g a)
theorem Sub.refl (h : Hp) : Sub h h := fun _ _ e => e
theorem Sub.trans {h g k : Hp} (a : Sub h g) (b : Sub g k) : Sub h k := fun x o e => b x o (a x o e)
theorem Sub.emp (h : Hp) : Sub VL.emp h := fun _ _ e => nomatch e
theorem Dj.symm {h g : Hp} (d : Dj h g) : Dj g h := fun a => (d a).symm
theorem Dj.emp (h : Hp) : Dj VL.emp h := fun _ => .inl rfl
theorem Dj.emp' (h : Hp) : Dj h VL.emp := fun _ => .inr rfl
theorem Sub.none {h g : Hp} (s : Sub h g) {a : Addr} (e : g a = Option.none) : h a = Option.none := by
  cases q : h a with
  | none => rfl
  | some o => rw [s a o q] at e; cases e
theorem Dj.sub {h g h' g' : Hp} (d : Dj h g) (s : Sub h' h) (t : Sub g' g) : Dj h' g' := fun a => by
  rcases d a with e | e
  · exact .inl (s.none e)
  · exact .inr (t.none e)
theorem Dj.subl {h g h' : Hp} (d : Dj h g) (s : Sub h' h) : Dj h' g := d.sub s (.refl _)
theorem Dj.subr {h g g' : Hp} (d : Dj h g) (s : Sub g' g) : Dj h g' := d.sub (.refl _) s
theorem Sub.joinl (h g : Hp) : Sub h (join h g) := fun a o e => by unfold join; rw [e]; rfl
theorem Sub.joinr {h g : Hp} (d : Dj h g) : Sub g (join h g) := fun a o e => by
  unfold join
  rcases d a with q | q
  · rw [q, e]; rfl
  · rw [q] at e; cases e
theorem Sub.join {h g k : Hp} (a : Sub h k) (b : Sub g k) : Sub (VL.join h g) k := fun x o e => by
  unfold VL.join at e
  cases q : h x with
  | none => rw [q] at e; exact b x o e
  | some u => rw [q] at e; cases e; exact a x _ q
theorem Dj.joinl {h g k : Hp} (a : Dj h k) (b : Dj g k) : Dj (join h g) k := fun x => by
  unfold join
  rcases a x with e | e
  · rcases b x with e' | e'
    · exact .inl (by rw [e, e']; rfl)
    · exact .inr e'
  · exact .inr e
theorem Dj.joinr {h g k : Hp} (a : Dj k h) (b : Dj k g) : Dj k (join h g) := (a.symm.joinl b.symm).symm
theorem Dj.ne {h g : Hp} (d : Dj h g) {a b : Addr} {o u : HO} (e : h a = some o) (e' : g b = some u) : a ≠ b := by
  intro z; subst z
  rcases d a with q | q
  · rw [q] at e; cases e
  · rw [q] at e'; cases e'
theorem Dj.at {h g : Hp} (d : Dj h g) {a : Addr} {o : HO} (e : h a = some o) : g a = none := by
  rcases d a with q | q
  · rw [q] at e; cases e
  · exact q
/-- one address -/
def one (a : Addr) (o : HO) : Hp := fun b => if b = a then some o else none
theorem one_at {a : Addr} {o : HO} : one a o a = some o := by unfold one; rw [if_pos rfl]
theorem one_ne {a b : Addr} {o : HO} (h : b ≠ a) : one a o b = none := by unfold one; rw [if_neg h]
theorem one_some {a b : Addr} {o u : HO} (h : one a o b = some u) : b = a ∧ u = o := by
  unfold one at h
  split at h
  · exact ⟨by assumption, by cases h; rfl⟩
  · cases h
theorem Sub.one {a : Addr} {o : HO} {h : Hp} (e : h a = some o) : Sub (VL.one a o) h := fun b u q => by
  obtain ⟨rfl, rfl⟩ := one_some q; exact e
theorem Dj.one {a : Addr} {o : HO} {h : Hp} (e : h a = none) : Dj (VL.one a o) h := fun b => by
  by_cases z : b = a
  · subst z; exact .inr e
  · exact .inl (one_ne z)
theorem Sub.upd {h H : Hp} {a : Addr} {o : HO} (s : Sub h H) (e : h a = Option.none) : Sub h (upd H a o) := fun b u q => by
  have : b ≠ a := by intro z; subst z; rw [e] at q; cases q
  rw [upd_ne this]; exact s b u q
theorem Sub.new {h H : Hp} {a : Addr} {o : HO} (s : Sub h H) (e : H a = Option.none) : Sub h (L2.upd H a o) := s.upd (s.none e)
theorem Sub.updb {h H : Hp} {a : Addr} {o : HO} (s : Sub h H) : Sub (L2.upd h a o) (L2.upd H a o) := fun b u q => by
  unfold L2.upd at *
  split at q
  · rw [if_pos (by assumption)]; exact q
  · rw [if_neg (by assumption)]; exact s b u q
theorem Dj.upd {h g : Hp} {a : Addr} {o : HO} (d : Dj h g) (e : g a = none) : Dj (L2.upd h a o) g := fun b => by
  unfold L2.upd
  split
  · rename_i z; subst z; exact .inr e
  · exact d b
/-! ## a tree over the abstract heap -/
structure Tb where
  K : PySem.W.Frag
  nm : Nat → Str
  cl : Nat → Addr
  /-- how many names of fields are known -/
  nF : Nat
  inj : ∀ i j, nm i = nm j → i = j
def AtL (T : Tb) (Z L h : Hp) (a : Addr) (vs : List V) : Fl → Prop
  | .own => h a = some (.lst vs)
  | .frz => Rd Z a (.lst vs)
  | .lnt => L a = some (.lst vs)
def AtO (Z L h : Hp) (a : Addr) (o : HO) : Fl → Prop
  | .own => h a = some o
  | .frz => Z a = some o
  | .lnt => L a = some o
def AtD (Z L h : Hp) (a : Addr) (o : HO) : Fl → Prop
  | .own => h a = some o
  | .frz => Rd Z a o
  | .lnt => Rd L a o
/-- the children's part -/
structure Kid (h hc : Hp) (m : Fl) : Prop where
  sub : Sub hc h
  non : m ≠ .own → hc = emp
mutual
inductive Rep (T : Tb) (Z L : Hp) : Hp → W → V → Prop where
  | non {h} : Rep T Z L h .non .non
  | bl {h b} : Rep T Z L h (.bl b) (.bl b)
  | int {h i} : Rep T Z L h (.int i) (.int i)
  | str {h x} : Rep T Z L h (.str x) (.str x)
  | tup {h ws a vs} : SqT T.K Z a vs → Reps T Z L h ws vs → Rep T Z L h (.tup ws) (.ref a)
  | lst {h hc m ws a vs} : AtL T Z L h a vs m → Kid h hc m → hc a = none → Reps T Z L hc ws vs → Rep T Z L h (.lst m ws) (.ref a)
  | dct {h hc m kvs a vs} : AtD Z L h a (.dK vs) m → Kid h hc m → hc a = none → kvs.map (·.1) = vs.map (·.1) → (kvs.map (·.1)).Nodup → Reps T Z L hc (kvs.map (·.2)) (vs.map (·.2)) → Rep T Z L h (.dct m kvs) (.ref a)
  | ins {h hc m c fs a dx vs} : AtO Z L h a (.ins (T.cl c) dx vs) m → AtO Z L h dx (.own a) m → Kid h hc m → hc a = none → hc dx = none → (fs.map (·.1)).map T.nm = vs.map (·.1) →
      Reps T Z L hc (fs.map (·.2)) (vs.map (·.2)) → Rep T Z L h (.ins m c fs) (.ref a)
inductive Reps (T : Tb) (Z L : Hp) : Hp → List W → List V → Prop where
  | nil {h} : Reps T Z L h [] []
  | cons {h h1 h2 w v ws vs} : Rep T Z L h1 w v → Reps T Z L h2 ws vs → Sub h1 h → Sub h2 h → Dj h1 h2 → Reps T Z L h (w :: ws) (v :: vs)
end
theorem rd_sub {Z Z' : Hp} (s : Sub Z Z') {a : Addr} {u : HO} (h : Rd Z a u) : Rd Z' a u := by
  rcases h with h | ⟨o, h⟩
  · exact .inl (s _ _ h)
  · exact .inr ⟨o, s _ _ h⟩
theorem sqL_sub {K : PySem.W.Frag} {Z Z' : Hp} (s : Sub Z Z') {a : Addr} {vs : List V} (h : SqL K Z a vs) : SqL K Z' a vs := by
  rcases h with h | h
  · exact .inl (rd_sub s h)
  · exact .inr h
theorem sqT_sub {K : PySem.W.Frag} {Z Z' : Hp} (s : Sub Z Z') {a : Addr} {vs : List V} (h : SqT K Z a vs) : SqT K Z' a vs := by
  rcases h with h | h
  · exact .inl (rd_sub s h)
  · exact .inr h
section
variable {T : Tb} {Z Z' L L' h h' : Hp}
theorem AtL.mono {a : Addr} {vs : List V} (z : Sub Z Z') (l : Sub L L') (s : Sub h h') : ∀ {m : Fl}, AtL T Z L h a vs m → AtL T Z' L' h' a vs m
  | .own, e => s _ _ e
  | .frz, e => rd_sub z e
  | .lnt, e => l _ _ e
theorem AtO.mono {a : Addr} {o : HO} (z : Sub Z Z') (l : Sub L L') (s : Sub h h') : ∀ {m : Fl}, AtO Z L h a o m → AtO Z' L' h' a o m
  | .own, e => s _ _ e
  | .frz, e => z _ _ e
  | .lnt, e => l _ _ e
theorem AtD.mono {a : Addr} {o : HO} (z : Sub Z Z') (l : Sub L L') (s : Sub h h') : ∀ {m : Fl}, AtD Z L h a o m → AtD Z' L' h' a o m
  | .own, e => s _ _ e
  | .frz, e => rd_sub z e
  | .lnt, e => rd_sub l e
theorem Kid.mono {hc : Hp} {m : Fl} (s : Sub h h') (k : Kid h hc m) : Kid h' hc m := ⟨k.sub.trans s, k.non⟩
mutual
theorem Rep.mono (z : Sub Z Z') (l : Sub L L') : ∀ {h h' : Hp} {w : W} {v : V}, Sub h h' → Rep T Z L h w v → Rep T Z' L' h' w v
  | _, _, _, _, _, .non => .non
  | _, _, _, _, _, .bl => .bl
  | _, _, _, _, _, .int => .int
  | _, _, _, _, _, .str => .str
  | _, _, _, _, s, .tup q r => .tup (sqT_sub z q) (r.mono z l s)
  | _, _, _, _, s, .lst q k n r => .lst (q.mono z l s) (k.mono s) n (r.mono z l (Sub.refl _))
  | _, _, _, _, s, .dct q k n e nd r => .dct (q.mono z l s) (k.mono s) n e nd (r.mono z l (Sub.refl _))
  | _, _, _, _, s, .ins q q' k n n' e r => .ins (q.mono z l s) (q'.mono z l s) (k.mono s) n n' e (r.mono z l (Sub.refl _))
theorem Reps.mono (z : Sub Z Z') (l : Sub L L') : ∀ {h h' : Hp} {ws : List W} {vs : List V}, Sub h h' → Reps T Z L h ws vs → Reps T Z' L' h' ws vs
  | _, _, _, _, _, .nil => .nil
  | _, _, _, _, s, .cons r t a b d => .cons (r.mono z l (Sub.refl _)) (t.mono z l (Sub.refl _)) (a.trans s) (b.trans s) d
end
theorem Rep.up {w : W} {v : V} (z : Sub Z Z') (r : Rep T Z L h w v) : Rep T Z' L h w v := r.mono z (.refl _) (.refl _)
theorem Reps.up {w : List W} {v : List V} (z : Sub Z Z') (r : Reps T Z L h w v) : Reps T Z' L h w v := r.mono z (.refl _) (.refl _)
theorem Rep.wid {w : W} {v : V} (s : Sub h h') (r : Rep T Z L h w v) : Rep T Z L h' w v := r.mono (.refl _) (.refl _) s
theorem Reps.wid {w : List W} {v : List V} (s : Sub h h') (r : Reps T Z L h w v) : Reps T Z L h' w v := r.mono (.refl _) (.refl _) s
theorem or_false' {a b : Bool} (h : (a || b) = false) : a = false ∧ b = false := by cases a <;> cases b <;> simp_all
/- no owned node: nothing is held -/
mutual
theorem Rep.bare : ∀ {h : Hp} {w : W} {v : V}, Rep T Z L h w v → w.has Fl.isOwn = false → Rep T Z L emp w v
  | _, _, _, .non, _ => .non
  | _, _, _, .bl, _ => .bl
  | _, _, _, .int, _ => .int
  | _, _, _, .str, _ => .str
  | _, _, _, .tup q r, e => .tup q (r.bare (by rw [W.has] at e; exact e))
  | _, _, _, @Rep.lst _ _ _ _ _ m _ _ _ q k n r, e => by
    rw [W.has] at e
    obtain ⟨e1, e2⟩ := or_false' e
    have r' := r.bare e2
    cases m with
    | own => cases e1
    | frz => exact .lst (m := .frz) (hc := emp) q ⟨Sub.emp _, fun _ => rfl⟩ rfl r'
    | lnt => exact .lst (m := .lnt) (hc := emp) q ⟨Sub.emp _, fun _ => rfl⟩ rfl r'
  | _, _, _, @Rep.dct _ _ _ _ _ m _ _ _ q k n ek nd r, e => by
    rw [W.has, hasK_eq] at e
    obtain ⟨e1, e2⟩ := or_false' e
    have r' := r.bare e2
    cases m with
    | own => cases e1
    | frz => exact .dct (m := .frz) (hc := emp) q ⟨Sub.emp _, fun _ => rfl⟩ rfl ek nd r'
    | lnt => exact .dct (m := .lnt) (hc := emp) q ⟨Sub.emp _, fun _ => rfl⟩ rfl ek nd r'
  | _, _, _, @Rep.ins _ _ _ _ _ m _ _ _ _ _ q q' k n n' ek r, e => by
    rw [W.has, hasF_eq] at e
    obtain ⟨e1, e2⟩ := or_false' e
    have r' := r.bare e2
    cases m with
    | own => cases e1
    | frz => exact .ins (m := .frz) (hc := emp) q q' ⟨Sub.emp _, fun _ => rfl⟩ rfl rfl ek r'
    | lnt => exact .ins (m := .lnt) (hc := emp) q q' ⟨Sub.emp _, fun _ => rfl⟩ rfl rfl ek r'
theorem Reps.bare : ∀ {h : Hp} {ws : List W} {vs : List V}, Reps T Z L h ws vs → hasL Fl.isOwn ws = false → Reps T Z L emp ws vs
  | _, _, _, .nil, _ => .nil
  | _, _, _, .cons r t a b d, e => by
    rw [hasL] at e
    obtain ⟨e1, e2⟩ := or_false' e
    exact .cons (r.bare e1) (t.bare e2) (Sub.emp _) (Sub.emp _) (Dj.emp _)
end
/- no lent node: what is lent doesn't matter -/
mutual
theorem Rep.keep : ∀ {h : Hp} {w : W} {v : V}, Rep T Z L h w v → w.has Fl.isLnt = false → Rep T Z L' h w v
  | _, _, _, .non, _ => .non
  | _, _, _, .bl, _ => .bl
  | _, _, _, .int, _ => .int
  | _, _, _, .str, _ => .str
  | _, _, _, .tup q r, e => .tup q (r.keep (by rw [W.has] at e; exact e))
  | _, _, _, @Rep.lst _ _ _ _ _ m _ _ _ q k n r, e => by
    rw [W.has] at e
    obtain ⟨e1, e2⟩ := or_false' e
    have r' : Reps T Z L' _ _ _ := r.keep e2
    cases m with
    | lnt => cases e1
    | frz => exact .lst (m := .frz) q k n r'
    | own => exact .lst (m := .own) q k n r'
  | _, _, _, @Rep.dct _ _ _ _ _ m _ _ _ q k n ek nd r, e => by
    rw [W.has, hasK_eq] at e
    obtain ⟨e1, e2⟩ := or_false' e
    have r' : Reps T Z L' _ _ _ := r.keep e2
    cases m with
    | lnt => cases e1
    | frz => exact .dct (m := .frz) q k n ek nd r'
    | own => exact .dct (m := .own) q k n ek nd r'
  | _, _, _, @Rep.ins _ _ _ _ _ m _ _ _ _ _ q q' k n n' ek r, e => by
    rw [W.has, hasF_eq] at e
    obtain ⟨e1, e2⟩ := or_false' e
    have r' : Reps T Z L' _ _ _ := r.keep e2
    cases m with
    | lnt => cases e1
    | frz => exact .ins (m := .frz) q q' k n n' ek r'
    | own => exact .ins (m := .own) q q' k n n' ek r'
theorem Reps.keep : ∀ {h : Hp} {ws : List W} {vs : List V}, Reps T Z L h ws vs → hasL Fl.isLnt ws = false → Reps T Z L' h ws vs
  | _, _, _, .nil, _ => .nil
  | _, _, _, .cons r t a b d, e => by
    rw [hasL] at e
    obtain ⟨e1, e2⟩ := or_false' e
    exact .cons (r.keep e1) (t.keep e2) a b d
end
/- frozen: what it held is nobody's any more -/
mutual
theorem Rep.frozen {g : Hp} (z : Sub Z Z') : ∀ {h : Hp} {w : W} {v : V}, Rep T Z L h w v → Sub h Z' → w.has Fl.isLnt = false → Rep T Z' L' g (w.mapF Fl.toFrz) v
  | _, _, _, .non, _, _ => .non
  | _, _, _, .bl, _, _ => .bl
  | _, _, _, .int, _, _ => .int
  | _, _, _, .str, _, _ => .str
  | _, _, _, .tup q r, s, e => by
    rw [W.mapF]
    exact .tup (sqT_sub z q) (r.frozen z s (by rw [W.has] at e; exact e))
  | _, _, _, @Rep.lst _ _ _ _ _ m _ _ _ q k n r, s, e => by
    rw [W.has] at e
    obtain ⟨e1, e2⟩ := or_false' e
    rw [W.mapF]
    refine .lst (m := .frz) (hc := emp) ?_ ⟨Sub.emp _, fun _ => rfl⟩ rfl (r.frozen z (k.sub.trans s) e2)
    cases m with
    | lnt => cases e1
    | frz => exact rd_sub z q
    | own => exact Rd.of (s _ _ q)
  | _, _, _, @Rep.dct _ _ _ _ _ m _ _ _ q k n ek nd r, s, e => by
    rw [W.has, hasK_eq] at e
    obtain ⟨e1, e2⟩ := or_false' e
    rw [W.mapF]
    refine .dct (m := .frz) (hc := emp) ?_ ⟨Sub.emp _, fun _ => rfl⟩ rfl (by rw [mapK_fst]; exact ek) (by rw [mapK_fst]; exact nd) (by rw [mapK_snd]; exact r.frozen z (k.sub.trans s) e2)
    cases m with
    | lnt => cases e1
    | frz => exact rd_sub z q
    | own => exact Rd.of (s _ _ q)
  | _, _, _, @Rep.ins _ _ _ _ _ m _ _ _ dx _ q q' k n n' ek r, s, e => by
    rw [W.has, hasF_eq] at e
    obtain ⟨e1, e2⟩ := or_false' e
    rw [W.mapF]
    refine .ins (m := .frz) (hc := emp) (dx := dx) ?_ ?_ ⟨Sub.emp _, fun _ => rfl⟩ rfl rfl (by rw [mapFs_fst]; exact ek) (by rw [mapFs_snd]; exact r.frozen z (k.sub.trans s) e2)
    · cases m with
      | lnt => cases e1
      | frz => exact z _ _ q
      | own => exact s _ _ q
    · cases m with
      | lnt => cases e1
      | frz => exact z _ _ q'
      | own => exact s _ _ q'
theorem Reps.frozen {g : Hp} (z : Sub Z Z') : ∀ {h : Hp} {ws : List W} {vs : List V}, Reps T Z L h ws vs → Sub h Z' → hasL Fl.isLnt ws = false → Reps T Z' L' g (mapL Fl.toFrz ws) vs
  | _, _, _, .nil, _, _ => .nil
  | _, _, _, .cons r t a b d, s, e => by
    rw [hasL] at e
    obtain ⟨e1, e2⟩ := or_false' e
    rw [mapL]
    exact .cons (r.frozen (g := emp) z (a.trans s) e1) (t.frozen (g := emp) z (b.trans s) e2) (Sub.emp _) (Sub.emp _) (Dj.emp _)
end
/- lent: what it held is lent -/
mutual
theorem Rep.lent {g : Hp} (l : Sub L L') : ∀ {h : Hp} {w : W} {v : V}, Sub h L' → Rep T Z L h w v → Rep T Z L' g (w.mapF Fl.toLnt) v
  | _, _, _, _, .non => .non
  | _, _, _, _, .bl => .bl
  | _, _, _, _, .int => .int
  | _, _, _, _, .str => .str
  | _, _, _, s, .tup q r => by
    rw [W.mapF]
    exact .tup q (r.lent l s)
  | _, _, _, s, @Rep.lst _ _ _ _ _ m _ _ _ q k n r => by
    rw [W.mapF]
    have r' : Reps T Z L' emp _ _ := r.lent (g := emp) l (k.sub.trans s)
    cases m with
    | lnt => exact .lst (m := .lnt) (hc := emp) (l _ _ q) ⟨Sub.emp _, fun _ => rfl⟩ rfl r'
    | frz => exact .lst (m := .frz) (hc := emp) q ⟨Sub.emp _, fun _ => rfl⟩ rfl r'
    | own => exact .lst (m := .lnt) (hc := emp) (s _ _ q) ⟨Sub.emp _, fun _ => rfl⟩ rfl r'
  | _, _, _, s, @Rep.dct _ _ _ _ _ m _ _ _ q k n ek nd r => by
    rw [W.mapF]
    have r' : Reps T Z L' emp _ _ := r.lent (g := emp) l (k.sub.trans s)
    rw [← mapK_snd] at r'
    have ek' := ek
    rw [← mapK_fst Fl.toLnt] at ek'
    cases m with
    | lnt => exact .dct (m := .lnt) (hc := emp) (rd_sub l q) ⟨Sub.emp _, fun _ => rfl⟩ rfl ek' (by rw [mapK_fst]; exact nd) r'
    | frz => exact .dct (m := .frz) (hc := emp) q ⟨Sub.emp _, fun _ => rfl⟩ rfl ek' (by rw [mapK_fst]; exact nd) r'
    | own => exact .dct (m := .lnt) (hc := emp) (Rd.of (s _ _ q)) ⟨Sub.emp _, fun _ => rfl⟩ rfl ek' (by rw [mapK_fst]; exact nd) r'
  | _, _, _, s, @Rep.ins _ _ _ _ _ m _ _ _ _ _ q q' k n n' ek r => by
    rw [W.mapF]
    have r' : Reps T Z L' emp _ _ := r.lent (g := emp) l (k.sub.trans s)
    rw [← mapFs_snd] at r'
    have ek' := ek
    rw [← mapFs_fst Fl.toLnt] at ek'
    cases m with
    | lnt => exact .ins (m := .lnt) (hc := emp) (l _ _ q) (l _ _ q') ⟨Sub.emp _, fun _ => rfl⟩ rfl rfl ek' r'
    | frz => exact .ins (m := .frz) (hc := emp) q q' ⟨Sub.emp _, fun _ => rfl⟩ rfl rfl ek' r'
    | own => exact .ins (m := .lnt) (hc := emp) (s _ _ q) (s _ _ q') ⟨Sub.emp _, fun _ => rfl⟩ rfl rfl ek' r'
theorem Reps.lent {g : Hp} (l : Sub L L') : ∀ {h : Hp} {ws : List W} {vs : List V}, Sub h L' → Reps T Z L h ws vs → Reps T Z L' g (mapL Fl.toLnt ws) vs
  | _, _, _, _, .nil => .nil
  | _, _, _, s, .cons r t a b d => by
    rw [mapL]
    exact .cons (r.lent (g := emp) l (a.trans s)) (t.lent (g := emp) l (b.trans s)) (Sub.emp _) (Sub.emp _) (Dj.emp _)
end
end
end VL
set_option Elab.async false
set_option linter.all false
set_option maxRecDepth 100000
namespace VL
open PySem L2
/-! ## names and their trees -/
abbrev Env := List (Option W)
inductive EnvR (T : Tb) (Z L : Hp) : Hp → Env → St → Prop where
  | nil {h} : EnvR T Z L h [] []
  | non {h env σ x} : EnvR T Z L h env σ → EnvR T Z L h (none :: env) (x :: σ)
  | som {h h1 h2 w v env σ} : Rep T Z L h1 w v → EnvR T Z L h2 env σ → Sub h1 h → Sub h2 h → Dj h1 h2 → EnvR T Z L h (some w :: env) (some v :: σ)
section
variable {T : Tb} {Z Z' L L' : Hp}
theorem EnvR.mono (z : Sub Z Z') (l : Sub L L') : ∀ {h h' : Hp} {env : Env} {σ : St}, Sub h h' → EnvR T Z L h env σ → EnvR T Z' L' h' env σ
  | _, _, _, _, _, .nil => .nil
  | _, _, _, _, s, .non e => .non (e.mono z l s)
  | _, _, _, _, s, .som r e a b d => .som (r.mono z l (Sub.refl _)) (e.mono z l (Sub.refl _)) (a.trans s) (b.trans s) d
theorem EnvR.up {h : Hp} {env : Env} {σ : St} (z : Sub Z Z') (e : EnvR T Z L h env σ) : EnvR T Z' L h env σ := e.mono z (.refl _) (.refl _)
theorem EnvR.wid {h h' : Hp} {env : Env} {σ : St} (s : Sub h h') (e : EnvR T Z L h env σ) : EnvR T Z L h' env σ := e.mono (.refl _) (.refl _) s
theorem EnvR.len : ∀ {h : Hp} {env : Env} {σ : St}, EnvR T Z L h env σ → env.length = σ.length
  | _, _, _, .nil => rfl
  | _, _, _, .non e => by simp [e.len]
  | _, _, _, .som _ e _ _ _ => by simp [e.len]
/-- a slot's tree taken out -/
theorem EnvR.take : ∀ {h : Hp} {env : Env} {σ : St} {i : Nat} {w : W}, EnvR T Z L h env σ → env[i]? = some (some w) →
    ∃ v h1 h2, σ[i]? = some (some v) ∧ Rep T Z L h1 w v ∧ EnvR T Z L h2 (env.set i none) σ ∧ Sub h1 h ∧ Sub h2 h ∧ Dj h1 h2
  | _, _, _, _, _, .nil, q => by simp at q
  | _, _, _, 0, _, .non e, q => by simp at q
  | h, _, _, i + 1, w, .non e, q => by
    obtain ⟨v, h1, h2, a, b, c, d, f, g⟩ := e.take (i := i) (w := w) (by simpa using q)
    exact ⟨v, h1, h2, by simpa using a, b, .non c, d, f, g⟩
  | _, _, _, 0, _, .som r e a b d, q => by
    have := Option.some.inj (Option.some.inj (by simpa using q))
    subst this
    exact ⟨_, _, _, rfl, r, .non e, a, b, d⟩
  | h, _, _, i + 1, w, .som (h1 := k1) (h2 := k2) r e a b d, q => by
    obtain ⟨v, h1, h2, p, rr, c, s1, s2, g⟩ := e.take (i := i) (w := w) (by simpa using q)
    have d1 : Dj k1 h1 := d.subr s1
    have d2 : Dj k1 h2 := d.subr s2
    exact ⟨v, h1, join k1 h2, by simpa using p, rr, .som r c (Sub.joinl _ _) (Sub.joinr d2) d2, s1.trans b, a.join (s2.trans b), (d1.symm).joinr g⟩
theorem EnvR.put : ∀ {h1 h2 : Hp} {env : Env} {σ : St} {i : Nat} {w : W} {v : V}, EnvR T Z L h2 env σ → Rep T Z L h1 w v → Dj h1 h2 → i < env.length →
    EnvR T Z L (join h1 h2) (env.set i (some w)) (σ.set i (some v))
  | _, _, _, _, _, _, _, .nil, _, _, l => by simp at l
  | _, _, _, _, 0, _, _, .non e, r, d, _ => .som r e (Sub.joinl _ _) (Sub.joinr d) d
  | _, _, _, _, i + 1, _, _, .non e, r, d, l => .non (e.put r d (by simpa using l))
  | _, _, _, _, 0, _, _, .som r' e a b d', r, d, _ => .som r e (Sub.joinl _ _) (b.trans (Sub.joinr d)) (d.subr b)
  | h1, _, _, _, i + 1, _, _, .som (h1 := k1) (h2 := k2) r' e a b d', r, d, l => by
    have d2 : Dj h1 k2 := d.subr b
    have d1 : Dj h1 k1 := d.subr a
    refine .som r' (e.put r d2 (by simpa using l)) (a.trans (Sub.joinr d)) ((Sub.joinl h1 _).join (b.trans (Sub.joinr d))) (d1.symm.joinr d')
theorem EnvR.drop : ∀ {h : Hp} {env : Env} {σ : St} (i : Nat) (x : Option V), EnvR T Z L h env σ → EnvR T Z L h (env.set i none) (σ.set i x)
  | _, _, _, _, _, .nil => .nil
  | _, _, _, 0, _, .non e => .non e
  | _, _, _, i + 1, _, .non e => .non (e.drop i _)
  | _, _, _, 0, _, .som r e a b d => .non (e.wid b)
  | _, _, _, i + 1, _, .som r e a b d => .som r (e.drop i _) a b d
theorem set_same {α : Type} : ∀ {l : List α} {i : Nat} {x : α}, l[i]? = some x → l.set i x = l
  | [], _, _, h => rfl
  | a :: l, 0, x, h => by
    have : a = x := Option.some.inj (by simpa using h)
    rw [this]; rfl
  | a :: l, i + 1, x, h => by
    show a :: l.set i x = a :: l
    rw [set_same (l := l) (i := i) (x := x) (by simpa using h)]
theorem EnvR.drop' {h : Hp} {env : Env} {σ : St} (i : Nat) (e : EnvR T Z L h env σ) : EnvR T Z L h (env.set i none) σ := by
  cases q : σ[i]? with
  | some x => have := e.drop i x; rw [set_same q] at this; exact this
  | none =>
    have hl : env.length ≤ i := by rw [e.len]; exact List.getElem?_eq_none_iff.mp q
    rw [List.set_eq_of_length_le hl]; exact e
theorem EnvR.put' {h1 h2 : Hp} {env : Env} {σ : St} {i : Nat} {w : W} {v : V} (e : EnvR T Z L h2 env σ) (r : Rep T Z L h1 w v) (d : Dj h1 h2) (q : σ[i]? = some (some v)) :
    EnvR T Z L (join h1 h2) (env.set i (some w)) σ := by
  have hl : i < env.length := by
    rw [e.len]; exact (List.getElem?_eq_some_iff.mp q).1
  have := e.put (i := i) r d hl
  rw [set_same q] at this; exact this
/-- a slot read -/
theorem EnvR.get {h : Hp} {env : Env} {σ : St} {i : Nat} {w : W} (e : EnvR T Z L h env σ) (q : env[i]? = some (some w)) : ∃ v, σ[i]? = some (some v) ∧ Rep T Z L h w v := by
  obtain ⟨v, h1, h2, a, b, _, s, _⟩ := e.take q
  exact ⟨v, a, b.wid s⟩
end
/-! ## states -/
structure Sx where
  Z : Hp
  E : Hp
  H : Hp
structure Hs (L : Hp) (s : Sx) : Prop where
  zh : Sub s.Z s.H
  eh : Sub s.E s.H
  lh : Sub L s.H
  ze : Dj s.Z s.E
  zl : Dj L s.Z
  el : Dj L s.E
/-- from s to s', the result's part t -/
structure Post (s s' : Sx) (t : Hp) : Prop where
  zz : Sub s.Z s'.Z
  zh : Sub s'.Z s'.H
  eh : Sub s'.E s'.H
  th : Sub t s'.H
  ze : Dj s'.Z s'.E
  zt : Dj s'.Z t
  et : Dj s'.E t
  fr : ∀ h, Sub h s.H → Dj h s.Z → Dj h s.E → Sub h s'.H ∧ Dj h s'.Z ∧ Dj h s'.E ∧ Dj h t
theorem Post.refl {L : Hp} {s : Sx} (k : Hs L s) : Post s s emp :=
  ⟨.refl _, k.zh, k.eh, .emp _, k.ze, .emp' _, .emp' _, fun h a b c => ⟨a, b, c, .emp' _⟩⟩
theorem Post.trans {s s1 s2 : Sx} {t1 t2 : Hp} (a : Post s s1 t1) (b : Post s1 s2 t2) : Post s s2 t2 :=
  ⟨a.zz.trans b.zz, b.zh, b.eh, b.th, b.ze, b.zt, b.et, fun h x y z => by
    obtain ⟨p, q, r, _⟩ := a.fr h x y z
    exact b.fr h p q r⟩
/-- what the first one left is kept beside -/
theorem Post.with {s s1 s2 : Sx} {t1 t2 : Hp} (a : Post s s1 t1) (b : Post s1 s2 t2) : Sub t1 s2.H ∧ Dj t1 s2.Z ∧ Dj t1 s2.E ∧ Dj t1 t2 := b.fr t1 a.th a.zt.symm a.et.symm
theorem Post.both {s s1 s2 : Sx} {t1 t2 : Hp} (a : Post s s1 t1) (b : Post s1 s2 t2) : Post s s2 (join t1 t2) := by
  obtain ⟨p, q, r, d⟩ := a.with b
  exact ⟨a.zz.trans b.zz, b.zh, b.eh, p.join b.th, b.ze, q.symm.joinr b.zt, r.symm.joinr b.et, fun h x y z => by
    obtain ⟨p1, q1, r1, d1⟩ := a.fr h x y z
    obtain ⟨p2, q2, r2, d2⟩ := b.fr h p1 q1 r1
    exact ⟨p2, q2, r2, d1.joinr d2⟩⟩
theorem Post.less {s s1 : Sx} {t t' : Hp} (a : Post s s1 t) (h : Sub t' t) : Post s s1 t' :=
  ⟨a.zz, a.zh, a.eh, h.trans a.th, a.ze, a.zt.subr h, a.et.subr h, fun h' x y z => by
    obtain ⟨p, q, r, d⟩ := a.fr h' x y z
    exact ⟨p, q, r, d.subr h⟩⟩
theorem Post.bare {s s1 : Sx} {t : Hp} (a : Post s s1 t) : Post s s1 emp := a.less (.emp _)
theorem Hs.post {L : Hp} {s s' : Sx} {t : Hp} (k : Hs L s) (p : Post s s' t) : Hs L s' ∧ Dj L t := by
  obtain ⟨a, b, c, d⟩ := p.fr L k.lh k.zl k.el
  exact ⟨⟨p.zh, p.eh, a, p.ze, b, c⟩, d⟩
/-- something new at an address that nothing stood at -/
theorem Post.newT {L : Hp} {s : Sx} (k : Hs L s) {p : Addr} {o : HO} (n : s.H p = none) : Post s ⟨s.Z, s.E, upd s.H p o⟩ (one p o) :=
  ⟨.refl _, k.zh.new n, k.eh.new n, fun b u q => by obtain ⟨rfl, rfl⟩ := one_some q; exact upd_same, k.ze, (Dj.one (k.zh.none n)).symm, (Dj.one (k.eh.none n)).symm,
    fun h a b c => ⟨a.new n, b, c, (Dj.one (a.none n)).symm⟩⟩
theorem Post.newZ {L : Hp} {s : Sx} (k : Hs L s) {p : Addr} {o : HO} (n : s.H p = none) : Post s ⟨upd s.Z p o, s.E, upd s.H p o⟩ emp :=
  ⟨(Sub.refl s.Z).upd (k.zh.none n), Sub.updb k.zh, k.eh.new n, .emp _, k.ze.upd (k.eh.none n), .emp' _, .emp' _,
    fun h a b c => ⟨a.new n, (b.symm.upd (a.none n)).symm, c, .emp' _⟩⟩
/-! ## results -/
inductive R (α : Type) where
  | ok (a : α) (env : Env)
  | ex (c : Nat) (w : W) (env : Env)
  | bad
def R.bind {α β : Type} (r : R α) (k : α → Env → R β) : R β := match r with
  | .ok a env => k a env
  | .ex c w env => .ex c w env
  | .bad => .bad
def R.opt {α : Type} (o : Option α) (env : Env) : R α := match o with
  | some a => .ok a env
  | none => .bad
@[simp] theorem R.bind_ok {α β : Type} (a : α) (env : Env) (k : α → Env → R β) : (R.ok a env).bind k = k a env := rfl
@[simp] theorem R.bind_ex {α β : Type} (c : Nat) (w : W) (env : Env) (k : α → Env → R β) : (R.ex c w env : R α).bind k = .ex c w env := rfl
@[simp] theorem R.bind_bad {α β : Type} (k : α → Env → R β) : (R.bad : R α).bind k = .bad := rfl
@[simp] theorem R.opt_some {α : Type} (a : α) (env : Env) : R.opt (some a) env = .ok a env := rfl
@[simp] theorem R.opt_none {α : Type} (env : Env) : R.opt (none : Option α) env = .bad := rfl
/-- an error of class c that holds w -/
def ErrR (T : Tb) (Z : Hp) (c : Nat) (w : W) (cls : Value) (d : Option Addr) : Prop :=
  cls = .ref (T.cl c) ∧ ∃ dd v, d = some dd ∧ Z dd = some (.xd [("value", v)]) ∧ Rep T Z emp emp w v
/-- what is wanted, by the result -/
def WantG {α β : Type} (RR : Hp → Hp → α → β → Prop) (T : Tb) (σ : St) (s : Sx) (r : R α) (Q : β → Hp → Prop) (E : XK) : Prop := match r with
  | .ok w env => ∀ v s' t, Post s s' t → EnvR T s'.Z emp s'.E env σ → RR s'.Z t w v → Q v s'.H
  | .ex c w env => ∀ cls d s', Post s s' emp → EnvR T s'.Z emp s'.E env σ → ErrR T s'.Z c w cls d → E cls d s'.H
  | .bad => False
abbrev Want (T : Tb) (L : Hp) := WantG (α := W) (β := V) (fun Z t w v => Rep T Z L t w v) T
abbrev Wants (T : Tb) (L : Hp) := WantG (α := List W) (β := List V) (fun Z t w v => Reps T Z L t w v) T
theorem WantG.later {α β : Type} {RR : Hp → Hp → α → β → Prop} {T : Tb} {σ : St} {s s1 : Sx} {t1 : Hp} {r : R α} {Q : β → Hp → Prop} {E : XK} (w : WantG RR T σ s r Q E) (p : Post s s1 t1) : WantG RR T σ s1 r Q E := by
  cases r with
  | ok a env => exact fun v s' t q e r => w v s' t (p.trans q) e r
  | ex c a env => exact fun cls d s' q e r => w cls d s' (p.trans q) e r
  | bad => exact w
/-- one after another: from what is wanted of both to what is wanted of the first; s: where all began -/
theorem WantG.bind {α β γ δ : Type} {RA : Hp → Hp → α → β → Prop} {RB : Hp → Hp → γ → δ → Prop} {T : Tb} {σ : St} {s s1 : Sx} {t1 : Hp} {r : R α} {k : α → Env → R γ} {Q : δ → Hp → Prop} {Q' : β → Hp → Prop} {E : XK}
    (w : WantG RB T σ s (r.bind k) Q E) (p : Post s s1 t1)
    (h : ∀ a env v s2 t, Post s1 s2 t → EnvR T s2.Z emp s2.E env σ → RA s2.Z t a v → WantG RB T σ s (k a env) Q E → Q' v s2.H) : WantG RA T σ s1 r Q' E := by
  cases r with
  | ok a env => exact fun v s2 t q e r => h a env v s2 t q e r w
  | ex c a env => exact WantG.later (r := (R.ex c a env : R α)) (RR := RA) (Q := Q') w p
  | bad => exact w
/-! ## an expression and what it gives -/
abbrev FE := Env → Env → R W
abbrev FA := Env → Env → R (List W)
def SE (X : Cx) (T : Tb) (E : XK) (e : Expr) (f : FE) : Prop := ∃ t, PE X e t ∧ ∀ (ro env : Env) (σ : St) (s : Sx) (L : Hp) (Q : VK), Hs L s → EnvR T s.Z L emp ro σ → EnvR T s.Z emp s.E env σ →
  Want T L σ s (f ro env) Q E → t σ s.H Q
def SA (X : Cx) (T : Tb) (E : XK) (es : List Expr) (f : FA) : Prop := ∃ t, PA X es t ∧ ∀ (ro env : Env) (σ : St) (s : Sx) (L : Hp) (Q : List V → Hp → Prop), Hs L s → EnvR T s.Z L emp ro σ → EnvR T s.Z emp s.E env σ →
  Wants T L σ s (f ro env) Q E → t σ s.H Q
def ST (X : Cx) (T : Tb) (E : XK) (e : Expr) (f : Env → Env → R Bool) : Prop := ∃ t, PT X e t ∧ ∀ (ro env : Env) (σ : St) (s : Sx) (L : Hp) (Q : Bool → Hp → Prop), Hs L s → EnvR T s.Z L emp ro σ → EnvR T s.Z emp s.E env σ →
  WantG (fun _ _ a b => a = b) T σ s (f ro env) Q E → t σ s.H Q
end VL
set_option Elab.async false
set_option linter.all false
set_option maxRecDepth 100000
namespace VL
open PySem L2
/-! ## the small language -/
inductive BinO | add | sub | mul | fdiv | mod | pow | shl | shr | band deriving DecidableEq
inductive CmpO | eq | ne | lt | le | gt | ge | inn | nin | isn | inn2 deriving DecidableEq
/-- built-in calls -/
inductive Blt | len | int | abs | min | max | sum | all | any | sorted | list | tuple | repr | dict | str deriving DecidableEq
/-- methods that change nothing -/
inductive Mtd | split | join | index | partition | get deriving DecidableEq
/-- one step on the way to a node: a field, a text's key -/
inductive Ps | f (i : Nat) | k (x : Str) deriving DecidableEq
inductive Ty | int | bool | tuple | str | list deriving DecidableEq
inductive Tg where
  | name (i : Nat)
  | tup (ts : List Tg)
  | fld (i : Nat) (fs : List Ps) (f : Nat)
inductive Mut | append | extend | pop | setix | setf (f : Nat) | update deriving DecidableEq
mutual
inductive IE where
  | lit (w : W)
  | var (i : Nat)
  | frz (i : Nat)
  | mov (i : Nat)
  | bor (i : Nat)
  | lend (xs : List Nat) (e : IE)
  | bin (o : BinO) (a b : IE)
  | neg (a : IE)
  | cmp (o : CmpO) (a b : IE)
  | chain (o p : CmpO) (a b c : IE)
  | tup (es : List IE)
  | lst (es : List IE)
  | ands (es : List IE)
  | ors (es : List IE)
  | dnot (a : IE)
  | ite (c : IT) (a b : IE)
  | blt (b : Blt) (es : List IE)
  | isin (a : IE) (t : Ty)
  | lrg (tp : Bool) (lo : Option IE) (hi : IE)
  | idx (a b : IE)
  | slc (a : IE) (lo hi : Option IE)
  | fld (a : IE) (f : Nat)
  | call (f : Nat) (as : List IE)
  | meth (c mi f : Nat) (r : IE) (as : List IE)
  | make (c f : Nat) (as : List IE)
  | comp (own : List Nat) (it : It) (tg : Tg) (ifs : List IT) (e : IE)
  | mut (i : Nat) (fs : List Ps) (m : Mut) (as : List IE)
  | dct0
  | dcomp (own : List Nat) (it : It) (tg : Tg) (ifs : List IT) (k e : IE)
  | disp (tp : Bool) (st : List Bool) (es : List IE)
  | mtd (m : Mtd) (r : IE) (as : List IE)
/-- a test -/
inductive IT where
  | val (e : IE)
  | ands (ts : List IT)
  | ors (ts : List IT)
  | dnot (t : IT)
  | lend (xs : List Nat) (t : IT)
inductive It where
  | val (e : IE)
  | rng1 (a : IE)
  | rng2 (a b : IE)
  | enum (e : IE)
  | zip (a b : IE)
end
inductive IS where
  | asg (t : Tg) (e : IE)
  | setx (i : Nat) (fs : List Ps) (ix e : IE)
  | par2 (i j : Nat) (a b : IE)
  | par3 (i j l : Nat) (a b c : IE)
  | expr (e : IE)
  | ifs (c : IT) (a b : List IS)
  | fors (t : Tg) (it : It) (body : List IS)
  | whl (c : IT) (body : List IS)
  | ret (e : IE)
  | retn
  | brk | cnt | pass | bad
  | frz (i : Nat) (fs : List Ps)
  | lend (xs ks : List Nat) (body : IS)
/-! ## what operations give -/
def szLine : Nat := 16777216
def W.truth : W → Option Bool
  | .non => some false
  | .bl b => some b
  | .int i => some (i != 0)
  | .str x => if x.length ≤ szLine then some ((x.length : Int) != 0) else none
  | .tup ws => some (!ws.isEmpty)
  | .lst _ ws => some (!ws.isEmpty)
  | .dct _ _ => none
  | .ins _ _ _ => none
mutual
def W.dat : W → PyData
  | .non => .none | .bl b => .bool b | .int i => .int i | .str x => .str x
  | .tup ws => .tuple (datL ws)
  | .lst _ ws => .list (datL ws)
  | .dct _ _ => .dict []
  | .ins _ _ _ => .dict []
def datL : List W → List PyData
  | [] => []
  | w :: r => w.dat :: datL r
end
mutual
/-- none, bools, ints, texts, lists, tuples of such -/
def W.plain : W → Bool
  | .non => true | .bl _ => true | .int _ => true | .str _ => true
  | .tup ws => plainL ws
  | .lst _ ws => plainL ws
  | .dct _ _ => false
  | .ins _ _ _ => false
def plainL : List W → Bool
  | [] => true
  | w :: r => w.plain && plainL r
end
def keyOf : W → Option Key
  | .int i => some (.inl i)
  | .str x => some (.inr x)
  | _ => none
def getK (k : Key) : List (Key × W) → Option W
  | [] => none
  | (g, x) :: r => if g = k then some x else getK k r
def setK (k : Key) (w : W) : List (Key × W) → List (Key × W)
  | [] => [(k, w)]
  | (g, x) :: r => if g = k then (k, w) :: r else (g, x) :: setK k w r
def mergeW (kvs : List (Key × W)) : List (Key × W) → List (Key × W)
  | [] => kvs
  | (k, w) :: r => mergeW (setK k w kvs) r
def kpairs : List W → Option (List (Key × W))
  | [] => some []
  | .tup [k, v] :: r => (keyOf k).bind fun key => (kpairs r).map ((key, v) :: ·)
  | _ :: _ => none
def strsOf : List W → Option (List Str)
  | [] => some []
  | .str i :: r => (strsOf r).map (i :: ·)
  | _ :: _ => none
def W.int? : W → Option Int | .int i => some i | _ => none
def W.bl? : W → Option Bool | .bl b => some b | _ => none
def intsOf : List W → Option (List Int)
  | [] => some []
  | .int i :: r => (intsOf r).map (i :: ·)
  | _ :: _ => none
def blsOf : List W → Option (List Bool)
  | [] => some []
  | .bl i :: r => (blsOf r).map (i :: ·)
  | _ :: _ => none
def W.seq? : W → Option (List W)
  | .lst _ ws => some ws
  | .tup ws => some ws
  | .str x => some (x.cps.toList.map fun c => .str ⟨#[c]⟩)
  | _ => none
/-- lists and tuples -/
def W.sq? : W → Option (List W)
  | .lst _ ws => some ws
  | .tup ws => some ws
  | _ => none
def zipS : W → W → Option (List W × List W)
  | .lst _ a, .lst _ b => some (a, b)
  | .tup a, .tup b => some (a, b)
  | _, _ => none
def W.lst? : W → Option (List W)
  | .lst _ ws => some ws
  | _ => none
def opt (b : Bool) {α : Type} (a : α) : Option α := if b then some a else none
def binF : BinO → W → W → Option W
  | .add, .int i, .int j => some (.int (i + j))
  | .add, .str a, .str b => opt (decide (a.length + b.length ≤ szLine)) (.str (a ++ b))
  | .sub, .int i, .int j => some (.int (i - j))
  | .mul, .int i, .int j => opt (decide (i.natAbs.log2 + j.natAbs.log2 < 1000000)) (.int (i * j))
  | .fdiv, .int i, .int j => opt (decide (0 < j) && decide (j.natAbs.log2 < 9000)) (.int (i / j))
  | .mod, .int i, .int j => opt (decide (0 < j)) (.int (i % j))
  | .pow, .int i, .int j => opt (decide (0 ≤ j) && decide (j ≤ 1000) && decide (i.natAbs.log2 < 1000)) (.int (i ^ j.toNat))
  | .add, .lst _ a, .lst _ b => opt (!hasL Fl.isMut a && !hasL Fl.isMut b && decide (a.length + b.length ≤ szLine)) (.lst .own (a ++ b))
  | .add, .tup a, .tup b => opt (!hasL Fl.isMut a && !hasL Fl.isMut b && decide (a.length + b.length ≤ szLine)) (.tup (a ++ b))
  | .mul, .lst .own a, .int k => opt (!hasL Fl.isMut a && decide (-(2 ^ 62) ≤ k) && decide (k < 2 ^ 62) && decide (a.length * k.toNat ≤ szLine)) (.lst .own (List.replicate k.toNat a).flatten)
  | _, _, _ => none
def eqD (a b : W) : Option Bool := opt (a.plain && b.plain && SeqAt.shaped a.dat && SeqAt.shaped b.dat) (PyData.eqv a.dat b.dat)
def eqF : W → W → Option Bool
  | .str x, .str y => some (x == y)
  | a, b => eqD a b
def W.flat : W → Bool
  | .non => true | .bl _ => true | .int _ => true | .str _ => true
  | _ => false
/-- == of flat values -/
def eqFl : W → W → Bool
  | .non, .non => true
  | .bl a, .bl b => a == b
  | .bl a, .int b => (if a then 1 else 0) == b
  | .int a, .bl b => a == (if b then 1 else 0)
  | .int a, .int b => a == b
  | .str a, .str b => a == b
  | _, _ => false
/-- a in b -/
def inF (a : W) : W → Option Bool
  | .dct _ kvs => (keyOf a).map fun k => (getK k kvs).isSome
  | .lst _ ws => if (a.flat && ws.all W.flat) = true then some (ws.any fun z => eqFl z a) else opt (a.plain && plainL ws && SeqAt.shaped a.dat && SeqAt.shaped (.list (datL ws))) ((datL ws).any fun z => PyData.eqv z a.dat)
  | .tup ws => opt (a.flat && ws.all W.flat) (ws.any fun z => eqFl z a)
  | .str z => match a with
    | .str x => match x.cps.toList with
      | [c] => some (decide (c ∈ z.cps.toList))
      | _ => none
    | _ => none
  | _ => none
def cmpF : CmpO → W → W → Option Bool
  | .eq, a, b => eqF a b
  | .ne, a, b => (eqF a b).map (!·)
  | .lt, .int i, .int j => some (decide (i < j))
  | .le, .int i, .int j => some (decide (i ≤ j))
  | .gt, .int i, .int j => some (decide (j < i))
  | .ge, .int i, .int j => some (decide (j ≤ i))
  | .isn, .non, .non => some true
  | .isn, _, .non => some false
  | .inn2, .non, .non => some false
  | .inn2, _, .non => some true
  | .inn, a, b => inF a b
  | .nin, a, b => (inF a b).map (!·)
  | _, _, _ => none
def leastI : Int → List Int → Int
  | m, [] => m
  | m, x :: r => leastI (if x < m then x else m) r
def mostI : Int → List Int → Int
  | m, [] => m
  | m, x :: r => mostI (if m < x then x else m) r
/-- the least pair, by the first parts, then the second ones -/
def pairOf : W → Option (Int × Int)
  | .tup [.int a, .int b] => some (a, b)
  | _ => none
def pairsOf : List W → Option (List (Int × Int))
  | [] => some []
  | w :: r => (pairOf w).bind fun p => (pairsOf r).map (p :: ·)
def lessP (p q : Int × Int) : Bool := decide (p.1 < q.1) || (decide (p.1 = q.1) && decide (p.2 < q.2))
def leastP : Int × Int → List (Int × Int) → Int × Int
  | m, [] => m
  | m, x :: r => leastP (if lessP x m then x else m) r
def minF (ws : List W) : Option W := match intsOf ws with
  | some (x :: r) => some (.int (leastI x r))
  | some [] => none
  | none => match pairsOf ws with
    | some (x :: r) => let m := leastP x r; some (.tup [.int m.1, .int m.2])
    | _ => none
def maxF (ws : List W) : Option W := match intsOf ws with
  | some (x :: r) => some (.int (mostI x r))
  | _ => none
def insI (x : Int) : List Int → List Int
  | [] => [x]
  | y :: r => if x ≤ y then x :: y :: r else y :: insI x r
def sortI : List Int → List Int
  | [] => []
  | x :: r => insI x (sortI r)
def bltF : Blt → List W → Option W
  | .len, [.lst _ ws] => some (.int ws.length)
  | .len, [.tup ws] => some (.int ws.length)
  | .len, [.dct _ kvs] => some (.int kvs.length)
  | .len, [.str x] => opt (decide (x.length ≤ szLine)) (.int x.length)
  | .int, [.int i] => some (.int i)
  | .int, [.bl b] => some (.int (if b then 1 else 0))
  | .int, [.str a] => (PySem.intText? a).bind fun n => opt (decide (a.length ≤ 640)) (.int n)
  | .abs, [.int i] => some (.int (if i < 0 then -i else i))
  | .min, [.int i, .int j] => some (.int (if j < i then j else i))
  | .max, [.int i, .int j] => some (.int (if j > i then j else i))
  | .min, [.lst _ ws] => minF ws
  | .max, [.lst _ ws] => maxF ws
  | .sum, [.lst _ ws] => (intsOf ws).map fun ns => .int ns.sum
  | .all, [.lst _ ws] => (blsOf ws).map fun bs => .bl (bs.all id)
  | .any, [.lst _ ws] => (blsOf ws).map fun bs => .bl (bs.any id)
  | .sorted, [.lst _ ws] => (intsOf ws).map fun ns => .lst .own ((sortI ns).map W.int)
  | .sorted, [.tup ws] => (intsOf ws).map fun ns => .lst .own ((sortI ns).map W.int)
  | .list, [.lst _ ws] => opt (!hasL Fl.isMut ws) (.lst .own ws)
  | .list, [.tup ws] => opt (!hasL Fl.isMut ws) (.lst .own ws)
  | .tuple, [.lst _ ws] => opt (!hasL Fl.isMut ws) (.tup ws)
  | .tuple, [.tup ws] => opt (!hasL Fl.isMut ws) (.tup ws)
  | .dict, [.lst _ ws] => (kpairs ws).bind fun kvs => opt (!hasL Fl.isMut ws && decide (ws.length ≤ szLine)) (.dct .own (mergeW [] kvs))
  | .str, [.int i] => opt (decide (i.natAbs.log2 < 1920)) (.str (toString i))
  | .str, [.str x] => some (.str x)
  | .repr, [w] => opt (w.plain && w.dat.showable && decide (w.dat.depth < 60) && decide (w.dat.shown.length ≤ szLine)) (.str w.dat.shown)
  | _, _ => none
def isinF : Ty → W → Option Bool
  | .int, .int _ => some true
  | .int, .bl _ => some true
  | _, .ins _ _ _ => none
  | _, .dct _ _ => none
  | .int, _ => some false
  | .bool, .bl _ => some true
  | .bool, _ => some false
  | .tuple, .tup _ => some true
  | .tuple, _ => some false
  | .str, .str _ => some true
  | .str, _ => some false
  | .list, .lst _ _ => some true
  | .list, _ => some false
def idxF : W → W → Option W
  | .lst _ ws, .int i => atI ws i
  | .tup ws, .int i => atI ws i
  | .dct _ kvs, k => (keyOf k).bind fun key => getK key kvs
  | .str z, .int i => opt (decide (z.length ≤ szLine)) () |>.bind fun _ => (atI z.cps.toList i).map fun c => .str ⟨#[c]⟩
  | _, _ => none
def cutW (xs : List W) (lo hi : Option Int) : List W := (xs.drop (HT.sIx xs.length 0 lo)).take (HT.sIx xs.length xs.length hi - HT.sIx xs.length 0 lo)
def slcF (w : W) (lo hi : Option Int) : Option W := match w with
  | .lst _ ws => opt (!hasL Fl.isMut ws) (.lst .own (cutW ws lo hi))
  | .tup ws => opt (!hasL Fl.isMut ws) (.tup (cutW ws lo hi))
  | .str z => opt (decide (z.length ≤ szLine)) (.str (cutS z lo hi))
  | _ => none
def Mtd.fits : Mtd → W → Bool
  | .split, .str _ => true
  | .join, .str _ => true
  | .partition, .str _ => true
  | .index, .lst _ _ => true
  | .get, .dct _ _ => true
  | _, _ => false
/-- methods that change nothing: the receiver, the arguments -/
def mtdF : Mtd → W → List W → Option W
  | .split, .str a, [.str b] => opt (!(b.length == 0) && decide (a.length + 2 ≤ szLine)) (.lst .own ((Txt.split a b).map W.str))
  | .join, .str a, [x] => x.sq?.bind fun ws => (strsOf ws).bind fun ys => opt (decide ((ys.map (·.length)).sum + ys.length * a.length ≤ 16777216)) (.str (Txt.join a ys))
  | .index, .lst _ ws, [x] => (opt (x.plain && plainL ws && SeqAt.shaped x.dat && SeqAt.shaped (.list (datL ws))) ((datL ws).findIdx? fun z => PyData.eqv z x.dat)).bind fun (o : Option Nat) => o.map fun (j : Nat) => W.int (j : Int)
  | .get, .dct _ kvs, [k] => (keyOf k).map fun key => (getK key kvs).getD .non
  | .get, .dct _ kvs, [k, z] => (keyOf k).map fun key => (getK key kvs).getD z
  | .partition, .str a, [.str b] => opt (!(b.length == 0) && decide (a.length ≤ szLine)) (.tup [.str (Txt.partition a b).1, .str (Txt.partition a b).2.1, .str (Txt.partition a b).2.2])
  | _, _, _ => none
def fldF : W → Nat → Option W
  | .ins _ _ fs, f => fs.lookup f
  | _, _ => none
/-- one node changed: (the node behind, what the call gives) -/
def putW (f : Nat) (w : W) : List (Nat × W) → List (Nat × W)
  | [] => [(f, w)]
  | (g, x) :: r => if g = f then (f, w) :: r else (g, x) :: putW f w r
def mutF : Mut → W → List W → Option (W × W)
  | .append, .lst .own ws, [w] => opt (!w.lnt? && decide (ws.length < szLine)) (.lst .own (ws ++ [w]), .non)
  | .pop, .lst .own ws, [.int i] => (seqIndex? i ws.length).bind fun k => (ws[k]?).bind fun w => opt (decide (-(2 ^ 62) ≤ i) && decide (i < 2 ^ 62)) (.lst .own (ws.eraseIdx k), w)
  | .pop, .lst .own ws, [] => (ws[ws.length - 1]?).bind fun w => some (.lst .own (ws.eraseIdx (ws.length - 1)), w)
  | .extend, .lst .own ws, [.lst _ us] => opt (!hasL Fl.isLnt us && decide (ws.length + us.length ≤ szLine)) (.lst .own (ws ++ us), .non)
  | .setix, .lst .own ws, [.int i, w] => (ixN ws.length i).bind fun j => opt (!w.lnt? && decide (j < ws.length)) (.lst .own (ws.set j w), .non)
  | .setix, .dct .own kvs, [k, w] => (keyOf k).bind fun key => opt (!w.lnt? && decide (kvs.length < szLine)) (.dct .own (setK key w kvs), .non)
  | .update, .dct .own kvs, [.dct m more] => opt (!m.isLnt && !hasK Fl.isMut more && decide (kvs.length + more.length ≤ szLine)) (.dct .own (mergeW kvs more), .non)
  | .setf f, .ins .own c fs, [w] => opt (!w.lnt? && decide (fs.length < 1000)) (.ins .own c (putW f w fs), .non)
  | _, _, _ => none
/-- what a changing method is asked of -/
def Mut.fits : Mut → W → Bool
  | .update, .dct _ _ => true
  | .update, _ => false
  | _, .lst _ _ => true
  | _, _ => false
/-- the node along fields of owned instances -/
def getP : W → List Ps → Option W
  | w, [] => some w
  | .ins .own _ fs, .f f :: r => (fs.lookup f).bind fun x => getP x r
  | .dct .own kvs, .k y :: r => (getK (.inr y) kvs).bind fun x => getP x r
  | _, _ => none
def setP : W → List Ps → W → Option W
  | _, [], x => some x
  | .ins .own c fs, .f f :: r, x => (fs.lookup f).bind fun y => (setP y r x).map fun z => .ins .own c (putW f z fs)
  | .dct .own kvs, .k n :: r, x => (getK (.inr n) kvs).bind fun y => (setP y r x).map fun z => .dct .own (setK (.inr n) z kvs)
  | _, _, _ => none
/-! ## what expressions give -/
/-- how a parameter is handed over -/
inductive Md | lent | bor | own deriving DecidableEq
abbrev FF := List W → R W
structure Fn where
  md : List Md
  run : FF
def lendE (env : Env) (ro : Env) : List Nat → Env × Env
  | [] => (env, ro)
  | x :: r => match env[x]? with
    | some (some w) => lendE (env.set x none) (ro.set x (some w.lend)) r
    | _ => lendE (env.set x none) ro r
def backE (old env : Env) : List Nat → Env
  | [] => env
  | x :: r => match old[x]? with
    | some (some w) => backE (old.set x none) (env.set x (some w)) r
    | _ => backE (old.set x none) env r
/-- lent slots come back behind an expression -/
def backR (old : Env) (xs : List Nat) : R W → R W
  | .ok w env => if w.lnt? then .bad else .ok w (backE old env xs)
  | .ex c w env => .ex c w (backE old env xs)
  | .bad => .bad
def backB (old : Env) (xs : List Nat) : R Bool → R Bool
  | .ok w env => .ok w (backE old env xs)
  | .ex c w env => .ex c w (backE old env xs)
  | .bad => .bad
def wipeE (env : Env) : List Nat → Env
  | [] => env
  | v :: vs => wipeE (env.set v none) vs
def bindE {α β : Type} (o : Option α) (k : α → R β) : R β := match o with
  | some a => k a
  | none => .bad
/-- a slot gets a tree: (ro, env) behind -/
def asgN (lk : List Nat) (i : Nat) (w : W) (ro env : Env) : Option (Env × Env) :=
  if lk.contains i then none else
  if w.lnt? then (if w.own? then none else some (ro.set i (some w), env.set i none)) else some (ro.set i none, env.set i (some w))
mutual
def asgT (lk : List Nat) : Tg → W → Env → Env → Option (Env × Env)
  | .name i, w, ro, env => asgN lk i w ro env
  | .tup ts, w, ro, env => match w with
    | .tup ws => asgTs lk ts ws ro env
    | _ => none
  | .fld i fs f, w, ro, env => match env[i]? with
    | some (some x) => ((getP x fs).bind fun y => (mutF (.setf f) y [w]).bind fun p => setP x fs p.1).map fun x' => (ro, env.set i (some x'))
    | _ => none
def asgTs (lk : List Nat) : List Tg → List W → Env → Env → Option (Env × Env)
  | [], [], ro, env => some (ro, env)
  | t :: ts, w :: ws, ro, env => match asgT lk t w ro env with
    | some (ro', env') => asgTs lk ts ws ro' env'
    | none => none
  | _, _, _, _ => none
end
def modeW : List Md → List W → Option (List W)
  | [], [] => some []
  | .lent :: m, w :: r => (modeW m r).map (w.lend :: ·)
  | .bor :: m, w :: r => if w.lnt? then none else (modeW m r).map (w :: ·)
  | .own :: m, w :: r => if w.lnt? then none else (modeW m r).map (w :: ·)
  | _, _ => none
def putBack : List IE → Env → Env → Env
  | .bor i :: as, some w :: bs, env => putBack as bs (env.set i (some w))
  | _ :: as, _ :: bs, env => putBack as bs env
  | _, _, env => env
/-- what is handed over for a while is taken when all arguments are there -/
def takeB : List IE → List W → Env → Option (List W × Env)
  | [], [], env => some ([], env)
  | a :: as, x :: ws, env => match a with
    | .bor i => match env[i]? with
      | some (some w) => (takeB as ws (env.set i none)).map fun p => (w :: p.1, p.2)
      | _ => none
    | _ => (takeB as ws env).map fun p => (x :: p.1, p.2)
  | _, _, _ => none
/-- a call: its arguments as they were handed over come back -/
def callF0 (F : Fn) (as : List IE) (ws : List W) (env : Env) : R W := bindE (modeW F.md ws) fun us => match F.run us with
  | .ok w bs => .ok w (putBack as bs env)
  | .ex c w bs => .ex c w (putBack as bs env)
  | .bad => .bad
def callFn (F : Fn) (as : List IE) (ws : List W) (env : Env) : R W := bindE (takeB as ws env) fun p => callF0 F as p.1 p.2
/-- a class called: a new instance, then its first method -/
def makeF0 (F : Fn) (c : Nat) (as : List IE) (ws : List W) (env : Env) : R W := bindE (modeW F.md (.ins .own c [] :: ws)) fun us => match F.run us with
  | .ok .non (some w :: bs) => .ok w (putBack as bs env)
  | .ex e w (_ :: bs) => .ex e w (putBack as bs env)
  | _ => .bad
def makeFn (F : Fn) (c : Nat) (as : List IE) (ws : List W) (env : Env) : R W := bindE (takeB as ws env) fun p => makeF0 F c as p.1 p.2
/-- whose method is asked -/
def recvW (r : IE) (x : W) (env : Env) : Option W := match r with
  | .bor i => match env[i]? with
    | some (some w) => some w
    | _ => none
  | _ => some x
def compLoop (step : W → Env → R (Option W)) : List W → List W → Env → R (List W)
  | [], acc, env => .ok acc env
  | x :: r, acc, env => (step x env).bind fun o env' => match o with
    | some w => if acc.length < szLine then compLoop step r (acc ++ [w]) env' else .bad
    | none => compLoop step r acc env'
def dcompLoop (step : W → Env → R (Option (Key × W))) : List W → List (Key × W) → Env → R (List (Key × W))
  | [], acc, env => .ok acc env
  | x :: r, acc, env => (step x env).bind fun o env' => match o with
    | some p => if acc.length < szLine then dcompLoop step r (setK p.1 p.2 acc) env' else .bad
    | none => dcompLoop step r acc env'
/-- an item of a display, starred or not -/
def starW (b : Bool) (w : W) : Option (List W) := if b then w.sq?.bind fun ws => opt (!hasL Fl.isMut ws) ws else some [w]
def noEx {α : Type} : R α → R α
  | .ok a env => .ok a env
  | _ => .bad
def rng1F : W → Option (List W)
  | .int j => if -(2 ^ 62) ≤ j ∧ j < 2 ^ 62 then some ((List.range j.toNat).map fun k => .int (0 + ((k : Nat) : Int))) else none
  | _ => none
def rng2F : W → W → Option (List W)
  | .int i, .int j => if -(2 ^ 62) ≤ i ∧ i < 2 ^ 62 ∧ -(2 ^ 62) ≤ j ∧ j < 2 ^ 62 then some ((List.range (j - i).toNat).map fun k => .int (i + ((k : Nat) : Int))) else none
  | _, _ => none
/-- the ints i .. j - 1, all of them -/
def rngW (i j : Int) : Option (List W) := if -(2 ^ 62) ≤ i ∧ i < 2 ^ 62 ∧ -(2 ^ 62) ≤ j ∧ j < 2 ^ 62 ∧ (j - i).toNat ≤ 2 ^ 24 then some ((List.range (j - i).toNat).map fun k => .int (i + ((k : Nat) : Int))) else none
def lrgF (tp : Bool) (l : Option Int) : W → Option W
  | .int j => (rngW (l.getD 0) j).map fun ws => if tp then .tup ws else .lst .own ws
  | _ => none
mutual
def ev (ρ : Nat → Fn) : IE → Env → Env → R W
  | .lit w, _, env => .ok w env
  | .var i, ro, env => match env[i]? with
    | some (some w) => if w.own? then .bad else .ok w env
    | _ => match ro[i]? with
      | some (some w) => .ok w env
      | _ => .bad
  | .frz i, ro, env => match env[i]? with
    | some (some w) => .ok w.freeze (env.set i (some w.freeze))
    | _ => match ro[i]? with
      | some (some w) => .ok w env
      | _ => .bad
  | .mov i, ro, env => match env[i]? with
    | some (some w) => .ok w (env.set i none)
    | _ => match ro[i]? with
      | some (some w) => .ok w env
      | _ => .bad
  | .bor i, _, env => match env[i]? with
    | some (some _) => .ok .non env
    | _ => .bad
  | .lend xs e, ro, env => match lendE env ro xs with
    | (env1, ro1) => backR env xs (ev ρ e ro1 env1)
  | .bin o a b, ro, env => (ev ρ a ro env).bind fun x env1 => (ev ρ b ro env1).bind fun y env2 => R.opt (binF o x y) env2
  | .neg a, ro, env => (ev ρ a ro env).bind fun x env1 => match x with
    | .int i => .ok (.int (-i)) env1
    | _ => .bad
  | .cmp o a b, ro, env => (ev ρ a ro env).bind fun x env1 => (ev ρ b ro env1).bind fun y env2 => R.opt ((cmpF o x y).map W.bl) env2
  | .chain o p a b c, ro, env => (ev ρ a ro env).bind fun x env1 => (ev ρ b ro env1).bind fun y env2 => bindE (cmpF o x y) fun k =>
      if k then (ev ρ c ro env2).bind fun z env3 => R.opt ((cmpF p y z).map W.bl) env3 else .ok (.bl false) env2
  | .tup es, ro, env => (evs ρ es ro env).bind fun ws env1 => if ws.length ≤ szLine then .ok (.tup ws) env1 else .bad
  | .lst es, ro, env => (evs ρ es ro env).bind fun ws env1 => if ws.length ≤ szLine then .ok (.lst .own ws) env1 else .bad
  | .ands es, ro, env => evAnd ρ es ro env
  | .ors es, ro, env => evOr ρ es ro env
  | .dnot a, ro, env => (ev ρ a ro env).bind fun x env1 => match x with
    | .bl b => .ok (.bl (!b)) env1
    | _ => .bad
  | .ite c a b, ro, env => (evT ρ c ro env).bind fun k env1 => if k then ev ρ a ro env1 else ev ρ b ro env1
  | .blt b es, ro, env => (evs ρ es ro env).bind fun ws env1 => R.opt (bltF b ws) env1
  | .isin a t, ro, env => (ev ρ a ro env).bind fun x env1 => R.opt ((isinF t x).map W.bl) env1
  | .lrg tp lo hi, ro, env => (evO ρ lo ro env).bind fun l env1 => (ev ρ hi ro env1).bind fun y env2 => R.opt (lrgF tp l y) env2
  | .idx a b, ro, env => (ev ρ a ro env).bind fun x env1 => (ev ρ b ro env1).bind fun y env2 => R.opt (idxF x y) env2
  | .slc a lo hi, ro, env => (ev ρ a ro env).bind fun x env1 => (evO ρ lo ro env1).bind fun l env2 => (evO ρ hi ro env2).bind fun h env3 => R.opt (slcF x l h) env3
  | .fld a f, ro, env => (ev ρ a ro env).bind fun x env1 => R.opt (fldF x f) env1
  | .call f as, ro, env => (evs ρ as ro env).bind fun ws env1 => callFn (ρ f) as ws env1
  | .meth c mi f r as, ro, env => (ev ρ r ro env).bind fun x env1 => match recvW r x env1 with
    | some (.ins _ c' fs) => if c' = c ∧ (fs.lookup mi).isNone = true then (evs ρ as ro env1).bind fun ws env2 => callFn (ρ f) (r :: as) (x :: ws) env2 else .bad
    | _ => .bad
  | .make c f as, ro, env => (evs ρ as ro env).bind fun ws env1 => makeFn (ρ f) c as ws env1
  | .comp own it tg ifs e, ro, env => (evIt ρ it ro env).bind fun items env1 =>
      (noEx (compLoop (fun x env2 => match asgT [] tg x (wipeE ro own) env2 with
        | some (ro3, env3) => (evTand ρ ifs ro3 env3).bind fun k env4 => if k then (ev ρ e ro3 env4).bind fun w env5 => .ok (some w) (wipeE env5 own) else .ok none (wipeE env4 own)
        | none => .bad) items [] (wipeE env1 own))).bind fun ws env6 => .ok (.lst .own ws) (backE env1 env6 own)
  | .mut i fs m as, ro, env => match env[i]? with
    | some (some w) => match lendE env ro [i] with
      | (env1, ro1) => bindE (getP w fs) fun x => if !m.fits x then .bad else (evs ρ as ro1 env1).bind fun ws env2 => bindE (mutF m x ws) fun p => bindE (setP w fs p.1) fun w' => .ok p.2 (env2.set i (some w'))
    | _ => .bad
  | .dct0, _, env => .ok (.dct .own []) env
  | .dcomp own it tg ifs k e, ro, env => (evIt ρ it ro env).bind fun items env1 =>
      (noEx (dcompLoop (fun x env2 => match asgT [] tg x (wipeE ro own) env2 with
        | some (ro3, env3) => (evTand ρ ifs ro3 env3).bind fun b env4 => if b then (ev ρ k ro3 env4).bind fun kw env5 => bindE (keyOf kw) fun key => (ev ρ e ro3 env5).bind fun w env6 => .ok (some (key, w)) (wipeE env6 own) else .ok none (wipeE env4 own)
        | none => .bad) items [] (wipeE env1 own))).bind fun kvs env6 => .ok (.dct .own kvs) (backE env1 env6 own)
  | .disp tp st es, ro, env => (evD ρ st es ro env).bind fun ws env1 => if ws.length ≤ szLine then .ok (if tp then .tup ws else .lst .own ws) env1 else .bad
  | .mtd m r as, ro, env => (ev ρ r ro env).bind fun x env1 => if !m.fits x then .bad else (evs ρ as ro env1).bind fun ws env2 => R.opt (mtdF m x ws) env2
def evD (ρ : Nat → Fn) : List Bool → List IE → Env → Env → R (List W)
  | [], [], _, env => .ok [] env
  | b :: st, e :: r, ro, env => (ev ρ e ro env).bind fun w env1 => bindE (starW b w) fun us => (evD ρ st r ro env1).bind fun ws env2 => .ok (us ++ ws) env2
  | _, _, _, _ => .bad
def evs (ρ : Nat → Fn) : List IE → Env → Env → R (List W)
  | [], _, env => .ok [] env
  | e :: r, ro, env => (ev ρ e ro env).bind fun w env1 => (evs ρ r ro env1).bind fun ws env2 => .ok (w :: ws) env2
def evO (ρ : Nat → Fn) : Option IE → Env → Env → R (Option Int)
  | none, _, env => .ok none env
  | some e, ro, env => (ev ρ e ro env).bind fun w env1 => match w with
    | .int i => .ok (some i) env1
    | _ => .bad
def evAnd (ρ : Nat → Fn) : List IE → Env → Env → R W
  | [], _, _ => .bad
  | [e], ro, env => ev ρ e ro env
  | e :: r, ro, env => (ev ρ e ro env).bind fun x env1 => match x with
    | .bl true => evAnd ρ r ro env1
    | .bl false => .ok (.bl false) env1
    | _ => .bad
def evOr (ρ : Nat → Fn) : List IE → Env → Env → R W
  | [], _, _ => .bad
  | [e], ro, env => ev ρ e ro env
  | e :: r, ro, env => (ev ρ e ro env).bind fun x env1 => match x with
    | .bl true => .ok (.bl true) env1
    | .bl false => evOr ρ r ro env1
    | _ => .bad
def evT (ρ : Nat → Fn) : IT → Env → Env → R Bool
  | .ands es, ro, env => evTand ρ es ro env
  | .ors es, ro, env => evTor ρ es ro env
  | .dnot a, ro, env => (evT ρ a ro env).bind fun k env1 => .ok (!k) env1
  | .lend xs e, ro, env => match lendE env ro xs with
    | (env1, ro1) => backB env xs (evT ρ e ro1 env1)
  | .val e, ro, env => (ev ρ e ro env).bind fun x env1 => R.opt x.truth env1
def evTand (ρ : Nat → Fn) : List IT → Env → Env → R Bool
  | [], _, env => .ok true env
  | e :: r, ro, env => (evT ρ e ro env).bind fun k env1 => if k then evTand ρ r ro env1 else .ok false env1
def evTor (ρ : Nat → Fn) : List IT → Env → Env → R Bool
  | [], _, env => .ok false env
  | e :: r, ro, env => (evT ρ e ro env).bind fun k env1 => if k then .ok true env1 else evTor ρ r ro env1
def evIt (ρ : Nat → Fn) : It → Env → Env → R (List W)
  | .val e, ro, env => (ev ρ e ro env).bind fun w env1 => bindE w.seq? fun ws => if hasL Fl.isOwn ws then .bad else .ok ws env1
  | .rng1 a, ro, env => (ev ρ a ro env).bind fun x env1 => R.opt (rng1F x) env1
  | .rng2 a b, ro, env => (ev ρ a ro env).bind fun x env1 => (ev ρ b ro env1).bind fun y env2 => R.opt (rng2F x y) env2
  | .enum e, ro, env => (ev ρ e ro env).bind fun w env1 => bindE w.lst? fun ws => if hasL Fl.isOwn ws then .bad else .ok (ws.mapIdx fun i x => .tup [.int i, x]) env1
  | .zip a b, ro, env => (ev ρ a ro env).bind fun x env1 => (ev ρ b ro env1).bind fun y env2 => bindE (zipS x y) fun p =>
      if hasL Fl.isOwn p.1 || hasL Fl.isOwn p.2 then .bad else .ok (List.zipWith (fun p q => .tup [p, q]) p.1 p.2) env2
end
end VL
set_option Elab.async false
set_option linter.all false
set_option maxRecDepth 100000
set_option maxHeartbeats 1000000
namespace VL
open PySem L2
section
variable {X : Cx} {T : Tb} {E : XK} {e a b c : Expr} {fa fb fc : FE} {pos : Pos}
/-! ## operations by values -/
/-- r gives what F gives -/
def Op1 (T : Tb) (r : V → Hp → VK → Prop) (F : W → Option W) : Prop := ∀ (L : Hp) (s : Sx) (t1 : Hp) (w1 w : W) (v1 : V) (Q : VK), Hs L s → Sub t1 s.H → Rep T s.Z L t1 w1 v1 → F w1 = some w →
  (∀ v s' t, Post s s' t → s'.E = s.E → Rep T s'.Z L t w v → Q v s'.H) → r v1 s.H Q
def Op2 (T : Tb) (r : R2) (F : W → W → Option W) : Prop := ∀ (L : Hp) (s : Sx) (t1 t2 : Hp) (w1 w2 w : W) (v1 v2 : V) (Q : VK), Hs L s → Sub t1 s.H → Sub t2 s.H → Rep T s.Z L t1 w1 v1 → Rep T s.Z L t2 w2 v2 →
  F w1 w2 = some w → (∀ v s' t, Post s s' t → s'.E = s.E → Rep T s'.Z L t w v → Q v s'.H) → r v1 v2 s.H Q
def OpN (T : Tb) (r : List V → Hp → VK → Prop) (F : List W → Option W) : Prop := ∀ (L : Hp) (s : Sx) (t1 : Hp) (ws : List W) (w : W) (vs : List V) (Q : VK), Hs L s → Sub t1 s.H → Reps T s.Z L t1 ws vs →
  F ws = some w → (∀ v s' t, Post s s' t → s'.E = s.E → Rep T s'.Z L t w v → Q v s'.H) → r vs s.H Q
theorem want_opt {σ : St} {s : Sx} {L : Hp} {o : Option W} {env : Env} {Q : VK} (h : Want T L σ s (R.opt o env) Q E) : ∃ w, o = some w ∧ Want T L σ s (.ok w env) Q E := by
  cases o with
  | none => exact h.elim
  | some w => exact ⟨w, rfl, h⟩
theorem se_c {v : V} {w : W} (h : PE X e (tC v)) (hr : ∀ Z L g, Rep T Z L g w v) : SE X T E e (fun _ env => .ok w env) :=
  ⟨_, h, fun ro env σ s L Q k r q wnt => wnt v s emp (Post.refl k) q (hr _ _ _)⟩
theorem se_op2 {te : TE → TE → TE} {r : R2} {F : W → W → Option W} (hp : ∀ ta tb, PE X a ta → PE X b tb → PE X e (tOp r ta tb)) (ho : Op2 T r F) (ha : SE X T E a fa) (hb : SE X T E b fb) :
    SE X T E e (fun ro env => (fa ro env).bind fun x env1 => (fb ro env1).bind fun y env2 => R.opt (F x y) env2) := by
  obtain ⟨ta, pa, ha⟩ := ha
  obtain ⟨tb, pb, hb⟩ := hb
  refine ⟨_, hp _ _ pa pb, fun ro env σ s L Q k rr re w => ?_⟩
  refine ha ro env σ s L _ k rr re (WantG.bind w (Post.refl k) fun x env1 v1 s1 t1 p1 e1 r1 w1 => ?_)
  obtain ⟨k1, d1⟩ := k.post p1
  refine hb ro env1 σ s1 L _ k1 (rr.up p1.zz) e1 (WantG.bind w1 p1 fun y env2 v2 s2 t2 p2 e2 r2 w2 => ?_)
  obtain ⟨k2, _⟩ := k1.post p2
  obtain ⟨a1, a2, a3, a4⟩ := p1.with p2
  obtain ⟨z, q, w2⟩ := want_opt w2
  exact ho L s2 t1 t2 x y z v1 v2 Q k2 a1 p2.th (r1.up p2.zz) r2 q fun v s3 t3 p3 e3 r3 => w2 v s3 t3 ((p1.trans p2).trans p3) (by rw [e3]; exact e2.up p3.zz) r3
theorem se_op1 {r : V → Hp → VK → Prop} {F : W → Option W} (hp : ∀ ta, PE X a ta → PE X e (tUn r ta)) (ho : Op1 T r F) (ha : SE X T E a fa) :
    SE X T E e (fun ro env => (fa ro env).bind fun x env1 => R.opt (F x) env1) := by
  obtain ⟨ta, pa, ha⟩ := ha
  refine ⟨_, hp _ pa, fun ro env σ s L Q k rr re w => ?_⟩
  refine ha ro env σ s L _ k rr re (WantG.bind w (Post.refl k) fun x env1 v1 s1 t1 p1 e1 r1 w1 => ?_)
  obtain ⟨k1, d1⟩ := k.post p1
  obtain ⟨z, q, w1⟩ := want_opt w1
  exact ho L s1 t1 x z v1 Q k1 p1.th r1 q fun v s3 t3 p3 e3 r3 => w1 v s3 t3 (p1.trans p3) (by rw [e3]; exact e1.up p3.zz) r3
/-! ## names -/
end
mutual
theorem Rep.nolnt {T : Tb} {Z : Hp} : ∀ {h : Hp} {w : W} {v : V}, Rep T Z emp h w v → w.has Fl.isLnt = false
  | _, _, _, .non => rfl
  | _, _, _, .bl => rfl
  | _, _, _, .int => rfl
  | _, _, _, .str => rfl
  | _, _, _, .tup q r => by rw [W.has]; exact r.nolnt
  | _, _, _, @Rep.lst _ _ _ _ _ m _ _ _ q k n r => by
    rw [W.has, r.nolnt]
    cases m with
    | lnt => cases q
    | frz => rfl
    | own => rfl
  | _, _, _, @Rep.dct _ _ _ _ _ m _ _ _ q k n ek nd r => by
    rw [W.has, hasK_eq, r.nolnt]
    cases m with
    | lnt => rcases q with q | ⟨_, q⟩ <;> cases q
    | frz => rfl
    | own => rfl
  | _, _, _, @Rep.ins _ _ _ _ _ m _ _ _ _ _ q q' k n n' ek r => by
    rw [W.has, hasF_eq, r.nolnt]
    cases m with
    | lnt => cases q
    | frz => rfl
    | own => rfl
theorem Reps.nolnt {T : Tb} {Z : Hp} : ∀ {h : Hp} {ws : List W} {vs : List V}, Reps T Z emp h ws vs → hasL Fl.isLnt ws = false
  | _, _, _, .nil => rfl
  | _, _, _, .cons r t a b d => by rw [hasL, r.nolnt, t.nolnt]; rfl
end
section
variable {X : Cx} {T : Tb} {E : XK} {e a b c : Expr} {fa fb fc : FE} {pos : Pos} {ρ : Nat → Fn}
theorem Rep.any {Z L h : Hp} {w : W} {v : V} (r : Rep T Z emp h w v) : Rep T Z L h w v := r.mono (.refl _) (.emp _) (.refl _)
theorem se_ro {ro env : Env} {σ : St} {s : Sx} {L : Hp} {Q : VK} {i : Nat} (k : Hs L s) (rr : EnvR T s.Z L emp ro σ) (re : EnvR T s.Z emp s.E env σ)
    (w : Want T L σ s (match ro[i]? with | some (some w) => R.ok w env | _ => .bad) Q E) : tVar i σ s.H Q := by
  split at w
  · rename_i x hx
    obtain ⟨v, hv, r⟩ := rr.get hx
    exact ⟨v, hv, w v s emp (Post.refl k) re r⟩
  · exact w.elim
theorem se_var {i : Nat} (h : PE X e (tVar i)) : SE X T E e (ev ρ (.var i)) := by
  refine ⟨_, h, fun ro env σ s L Q k rr re w => ?_⟩
  rw [ev] at w
  split at w
  · rename_i x hx
    obtain ⟨v, hv, r⟩ := re.get hx
    split at w
    · exact w.elim
    · rename_i ho
      exact ⟨v, hv, w v s emp (Post.refl k) re (r.bare (by simpa using ho)).any⟩
  · exact se_ro k rr re w
/-- a part of what is held is nobody's any more -/
theorem Post.froze {L : Hp} {s : Sx} (k : Hs L s) {h1 h2 : Hp} (s1 : Sub h1 s.E) (s2 : Sub h2 s.E) (d : Dj h1 h2) : Post s ⟨join s.Z h1, h2, s.H⟩ emp :=
  ⟨.joinl _ _, k.zh.join (s1.trans k.eh), s2.trans k.eh, .emp _, (k.ze.subr s2).joinl d, .emp' _, .emp' _, fun h a b c => ⟨a, b.joinr (c.subr s1), c.subr s2, .emp' _⟩⟩
theorem se_frz {i : Nat} (h : PE X e (tVar i)) : SE X T E e (ev ρ (.frz i)) := by
  refine ⟨_, h, fun ro env σ s L Q k rr re w => ?_⟩
  rw [ev] at w
  split at w
  · rename_i x hx
    obtain ⟨v, h1, h2, hv, r, e2, s1, s2, d⟩ := re.take hx
    refine ⟨v, hv, ?_⟩
    have zz : Sub s.Z (join s.Z h1) := .joinl _ _
    have zd : Dj s.Z h1 := k.ze.subr s1
    have hz : Sub h1 (join s.Z h1) := .joinr zd
    have r' : ∀ (L g : Hp), Rep T (join s.Z h1) L g x.freeze v := fun L g => r.frozen zz hz r.nolnt
    refine w v ⟨join s.Z h1, h2, s.H⟩ emp (Post.froze k s1 s2 d) ?_ (r' _ _)
    have := (e2.up zz).put' (r' emp emp) (.emp _) hv
    rw [List.set_set] at this
    exact this.wid ((Sub.emp _).join (.refl _))
  · exact se_ro k rr re w
/-- a part of what is held goes out as the result -/
theorem Post.moved {L : Hp} {s : Sx} (k : Hs L s) {h1 h2 : Hp} (s1 : Sub h1 s.E) (s2 : Sub h2 s.E) (d : Dj h1 h2) : Post s ⟨s.Z, h2, s.H⟩ h1 :=
  ⟨.refl _, k.zh, s2.trans k.eh, s1.trans k.eh, k.ze.subr s2, k.ze.subr s1, d.symm, fun h a b c => ⟨a, b, c.subr s2, c.subr s1⟩⟩
theorem se_mov {i : Nat} (h : PE X e (tVar i)) : SE X T E e (ev ρ (.mov i)) := by
  refine ⟨_, h, fun ro env σ s L Q k rr re w => ?_⟩
  rw [ev] at w
  split at w
  · rename_i x hx
    obtain ⟨v, h1, h2, hv, r, e2, s1, s2, d⟩ := re.take hx
    exact ⟨v, hv, w v ⟨s.Z, h2, s.H⟩ h1 (Post.moved k s1 s2 d) e2 r.any⟩
  · exact se_ro k rr re w
/-! ## lent for a while -/
/-- slots taken out of the frame and lent: what is held beside, and how all stands again behind -/
theorem lendE_ok : ∀ (xs : List Nat) {ro env : Env} {σ : St} {s : Sx} {L : Hp}, Hs L s → EnvR T s.Z L emp ro σ → EnvR T s.Z emp s.E env σ → ro.length = env.length →
    ∃ (l E' : Hp), Sub l s.E ∧ Sub E' s.E ∧ Dj l E' ∧ EnvR T s.Z (join L l) emp (lendE env ro xs).2 σ ∧ EnvR T s.Z emp E' (lendE env ro xs).1 σ ∧ (lendE env ro xs).2.length = (lendE env ro xs).1.length ∧
      ∀ (env2 : Env) (Z2 E2 : Hp) (σ2 : St), (∀ x ∈ xs, σ2[x]? = σ[x]?) → Sub s.Z Z2 → Dj l E2 → EnvR T Z2 emp E2 env2 σ2 → EnvR T Z2 emp (join l E2) (backE env env2 xs) σ2
  | [], ro, env, σ, s, L, k, rr, re, hl => ⟨emp, s.E, .emp _, .refl _, .emp _, rr.mono (.refl _) (.joinl _ _) (.refl _), re, hl, fun env2 Z2 E2 σ2 ag z d e => e.wid (.joinr (.emp _))⟩
  | x :: xs, ro, env, σ, s, L, k, rr, re, hl => by
    unfold lendE backE
    split
    · rename_i w hx
      obtain ⟨v, h1, h2, hv, r, e2, s1, s2, d⟩ := re.take hx
      have dL : Dj L h1 := k.el.subr s1
      have k2 : Hs (join L h1) ⟨s.Z, h2, s.H⟩ := ⟨k.zh, s2.trans k.eh, k.lh.join (s1.trans k.eh), k.ze.subr s2, k.zl.joinl (k.ze.subr s1).symm, (k.el.subr s2).joinl d⟩
      have rl : Rep T s.Z (join L h1) emp w.lend v := (r.any (L := L)).lent (.joinl _ _) (.joinr dL)
      have rr2 : EnvR T s.Z (join L h1) emp (ro.set x (some w.lend)) σ := by
        have := (rr.mono (.refl _) (Sub.joinl L h1) (.refl _)).put' rl (.emp _) hv
        exact this.wid ((Sub.emp _).join (.refl _))
      obtain ⟨l, E', a1, a2, a3, a4, a5, a6, a7⟩ := lendE_ok xs (ro := ro.set x (some w.lend)) (env := env.set x none) k2 rr2 e2 (by simpa using hl)
      refine ⟨join h1 l, E', s1.join (a1.trans s2), a2.trans s2, (d.subr a2).joinl a3, ?_, a5, a6, fun env2 Z2 E2 σ2 ag z dj e => ?_⟩
      · refine a4.mono (.refl _) ?_ (.refl _)
        refine (Sub.join ?_ ?_).join ?_
        · exact .joinl _ _
        · exact (Sub.joinl h1 l).trans (.joinr (dL.joinr (k.el.subr (a1.trans s2))))
        · exact (Sub.joinr (d.subr a1)).trans (.joinr (dL.joinr (k.el.subr (a1.trans s2))))
      · have d1 : Dj h1 E2 := dj.subl (.joinl _ _)
        have d2 : Dj l E2 := dj.subl (.joinr (d.subr a1))
        have d3 : Dj l h1 := (d.subr a1).symm
        have q := e.put' ((r.up z).any (L := emp)) d1 ((ag x (List.mem_cons_self ..)).trans hv)
        have q2 := a7 (env2.set x (some w)) Z2 (join h1 E2) σ2 (fun y hy => ag y (List.mem_cons_of_mem _ hy)) z (d3.joinr d2) q
        exact q2.wid (((Sub.joinr d3.symm).trans (.joinl _ _)).join (((Sub.joinl h1 l).trans (.joinl _ _)).join (.joinr dj)))
    · obtain ⟨l, E', a1, a2, a3, a4, a5, a6, a7⟩ := lendE_ok xs (env := env.set x none) k rr (re.drop' x) (by simpa using hl)
      exact ⟨l, E', a1, a2, a3, a4, a5, a6, fun env2 Z2 E2 σ2 ag => a7 env2 Z2 E2 σ2 fun y hy => ag y (List.mem_cons_of_mem _ hy)⟩
/-- a step while something is lent, seen from outside -/
theorem Post.unlend {s s' : Sx} {l E' t : Hp} (k : Sub s.E s.H) (ze : Dj s.Z s.E) (a1 : Sub l s.E) (a2 : Sub E' s.E) (a3 : Dj l E') (p : Post ⟨s.Z, E', s.H⟩ s' t) : Post s ⟨s'.Z, join l s'.E, s'.H⟩ t := by
  obtain ⟨b1, b2, b3, b4⟩ := p.fr l (a1.trans k) (ze.subr a1).symm a3
  exact ⟨p.zz, p.zh, b1.join p.eh, p.th, b2.symm.joinr p.ze, p.zt, b4.joinl p.et, fun h x y z => by
    obtain ⟨c1, c2, c3, c4⟩ := p.fr h x y (z.subr a2)
    exact ⟨c1, c2, (z.subr a1).joinr c3, c4⟩⟩
theorem Hs.lend {L l E' : Hp} {s : Sx} (k : Hs L s) (a1 : Sub l s.E) (a2 : Sub E' s.E) (a3 : Dj l E') : Hs (join L l) ⟨s.Z, E', s.H⟩ :=
  ⟨k.zh, a2.trans k.eh, k.lh.join (a1.trans k.eh), k.ze.subr a2, k.zl.joinl (k.ze.subr a1).symm, (k.el.subr a2).joinl a3⟩
theorem Dj.fr {s s' : Sx} {l E' t : Hp} (k : Sub s.E s.H) (ze : Dj s.Z s.E) (a1 : Sub l s.E) (a3 : Dj l E') (p : Post ⟨s.Z, E', s.H⟩ s' t) : Dj l s'.E := (p.fr l (a1.trans k) (ze.subr a1).symm a3).2.2.1
theorem lend_reads {xs : List Nat} {i : IE} {t : TE} (h : ∀ (ro env : Env) (σ : St) (s : Sx) (L : Hp) (Q : VK), Hs L s → EnvR T s.Z L emp ro σ → EnvR T s.Z emp s.E env σ → Want T L σ s (ev ρ i ro env) Q E → t σ s.H Q)
    (ro env : Env) (σ : St) (s : Sx) (L : Hp) (Q : VK) (k : Hs L s) (rr : EnvR T s.Z L emp ro σ) (re : EnvR T s.Z emp s.E env σ) (w : Want T L σ s (ev ρ (.lend xs i) ro env) Q E) : t σ s.H Q := by
  rw [ev] at w
  obtain ⟨l, E', a1, a2, a3, a4, a5, a6, a7⟩ := lendE_ok xs k rr re (by rw [rr.len, re.len])
  rcases q : lendE env ro xs with ⟨env1, ro1⟩
  rw [q] at w a4 a5
  refine h ro1 env1 σ ⟨s.Z, E', s.H⟩ (join L l) Q (k.lend a1 a2 a3) a4 a5 ?_
  dsimp only at w
  cases q2 : ev ρ i ro1 env1 with
  | bad => rw [q2] at w; exact w
  | ok x env2 =>
    rw [q2] at w
    unfold backR at w
    dsimp only at w
    split at w
    · exact w.elim
    · rename_i hl
      intro v s' t p e r
      exact w v ⟨s'.Z, join l s'.E, s'.H⟩ t (p.unlend k.eh k.ze a1 a2 a3) (a7 _ _ _ _ (fun _ _ => rfl) p.zz (Dj.fr k.eh k.ze a1 a3 p) e) (r.keep (by simpa using hl))
  | ex c x env2 =>
    rw [q2] at w
    intro cls d s' p e r
    exact w cls d ⟨s'.Z, join l s'.E, s'.H⟩ (p.unlend k.eh k.ze a1 a2 a3) (a7 _ _ _ _ (fun _ _ => rfl) p.zz (Dj.fr k.eh k.ze a1 a3 p) e) r
theorem se_lend {xs : List Nat} {i : IE} (h : SE X T E e (ev ρ i)) : SE X T E e (ev ρ (.lend xs i)) := by
  obtain ⟨t, pe, h⟩ := h
  exact ⟨t, pe, lend_reads h⟩
/-! ## lists of expressions -/
theorem sa_nil : SA X T E [] (evs ρ []) := ⟨_, pa_nil, fun ro env σ s L Q k rr re w => by
  rw [evs] at w
  exact w [] s emp (Post.refl k) re .nil⟩
theorem sa_cons {i : IE} {is : List IE} {es : List Expr} (h : SE X T E e (ev ρ i)) (hs : SA X T E es (evs ρ is)) (st : starEach (e :: es) X.env = (false, eval e X.env) :: starEach es X.env) : SA X T E (e :: es) (evs ρ (i :: is)) := by
  obtain ⟨t, pe, h⟩ := h
  obtain ⟨ts, pes, hs⟩ := hs
  refine ⟨_, pa_cons pe pes st, fun ro env σ s L Q k rr re w => ?_⟩
  rw [evs] at w
  refine h ro env σ s L _ k rr re (WantG.bind w (Post.refl k) fun x env1 v1 s1 t1 p1 e1 r1 w1 => ?_)
  obtain ⟨k1, d1⟩ := k.post p1
  refine hs ro env1 σ s1 L _ k1 (rr.up p1.zz) e1 (WantG.bind w1 p1 fun ys env2 vs s2 t2 p2 e2 r2 w2 => ?_)
  obtain ⟨a1, a2, a3, a4⟩ := p1.with p2
  exact w2 (v1 :: vs) s2 (join t1 t2) (p1.both p2) e2 (.cons (r1.up p2.zz) r2 (.joinl _ _) (.joinr a4) a4)
end
end VL
set_option Elab.async false
set_option linter.all false
set_option maxRecDepth 100000
set_option maxHeartbeats 1000000
namespace VL
open PySem L2
/-- where the code runs: what all of it may rely on -/
structure Ctx (X : Cx) (T : Tb) : Prop where
  kk : X.K = T.K
  calm : X.calm = true
  nd : X.N.Nodup
  un : X.A.units + 64 < cLine
  un2 : X.A.units + 128 < cLine
  ga : X.A.guards = some []
  fld : ∀ c f, f < T.nF → Cls X.K (T.cl c) ∧ NoAttr X.K (T.cl c) (T.nm f)
section
variable {X : Cx} {T : Tb} {E : XK} {Z L h : Hp} {s : Sx}
theorem sz_eq : szLine = sizeLine := by rw [sizeLine_eq]; rfl
theorem Rep.lst_inv {m : Fl} {ws : List W} {v : V} {H : Hp} (r : Rep T Z L h (.lst m ws) v) (z : Sub Z H) (l : Sub L H) (k : Sub h H) :
    ∃ a vs hc, v = .ref a ∧ Rd H a (.lst vs) ∧ Reps T Z L hc ws vs ∧ Sub hc h ∧ (m = .own → H a = some (.lst vs)) := by
  cases r with
  | lst q kd n r =>
    cases m with
    | own => exact ⟨_, _, _, rfl, Rd.of (k _ _ q), r, kd.sub, fun _ => k _ _ q⟩
    | frz => exact ⟨_, _, _, rfl, rd_sub z q, r, kd.sub, fun z => nomatch z⟩
    | lnt => exact ⟨_, _, _, rfl, Rd.of (l _ _ q), r, kd.sub, fun z => nomatch z⟩
theorem Rep.tup_inv {ws : List W} {v : V} {H : Hp} (r : Rep T Z L h (.tup ws) v) (z : Sub Z H) : ∃ a vs, v = .ref a ∧ SqT T.K H a vs ∧ Reps T Z L h ws vs ∧ SqT T.K Z a vs := by
  cases r with
  | tup q r => exact ⟨_, _, rfl, sqT_sub z q, r, q⟩
theorem Reps.length : ∀ {Z L h : Hp} {ws : List W} {vs : List V}, Reps T Z L h ws vs → ws.length = vs.length
  | _, _, _, _, _, .nil => rfl
  | _, _, _, _, _, .cons _ t _ _ _ => by simp [t.length]
mutual
theorem has_le (w : W) : w.has Fl.isMut = false → w.has Fl.isOwn = false ∧ w.has Fl.isLnt = false := match w with
  | .non | .bl _ | .int _ | .str _ => fun _ => ⟨rfl, rfl⟩
  | .tup ws => fun e => by rw [W.has] at e; rw [W.has, W.has]; exact hasL_le ws e
  | .lst m ws => fun e => by
    rw [W.has] at e
    obtain ⟨a, b⟩ := or_false' e
    obtain ⟨c, d⟩ := hasL_le ws b
    rw [W.has, W.has, c, d]
    cases m <;> first | exact ⟨rfl, rfl⟩ | cases a
  | .dct m kvs => fun e => by
    rw [W.has] at e
    obtain ⟨a, b⟩ := or_false' e
    obtain ⟨c, d⟩ := hasK_le kvs b
    rw [W.has, W.has, c, d]
    cases m <;> first | exact ⟨rfl, rfl⟩ | cases a
  | .ins m _ fs => fun e => by
    rw [W.has] at e
    obtain ⟨a, b⟩ := or_false' e
    obtain ⟨c, d⟩ := hasF_le fs b
    rw [W.has, W.has, c, d]
    cases m <;> first | exact ⟨rfl, rfl⟩ | cases a
theorem hasL_le (ws : List W) : hasL Fl.isMut ws = false → hasL Fl.isOwn ws = false ∧ hasL Fl.isLnt ws = false := match ws with
  | [] => fun _ => ⟨rfl, rfl⟩
  | w :: r => fun e => by
    rw [hasL] at e
    obtain ⟨a, b⟩ := or_false' e
    obtain ⟨c, d⟩ := has_le w a
    obtain ⟨c', d'⟩ := hasL_le r b
    rw [hasL, hasL, c, d, c', d']; exact ⟨rfl, rfl⟩
theorem hasK_le (ws : List (Key × W)) : hasK Fl.isMut ws = false → hasK Fl.isOwn ws = false ∧ hasK Fl.isLnt ws = false := match ws with
  | [] => fun _ => ⟨rfl, rfl⟩
  | (_, w) :: r => fun e => by
    rw [hasK] at e
    obtain ⟨a, b⟩ := or_false' e
    obtain ⟨c, d⟩ := has_le w a
    obtain ⟨c', d'⟩ := hasK_le r b
    rw [hasK, hasK, c, d, c', d']; exact ⟨rfl, rfl⟩
theorem hasF_le (ws : List (Nat × W)) : hasF Fl.isMut ws = false → hasF Fl.isOwn ws = false ∧ hasF Fl.isLnt ws = false := match ws with
  | [] => fun _ => ⟨rfl, rfl⟩
  | (_, w) :: r => fun e => by
    rw [hasF] at e
    obtain ⟨a, b⟩ := or_false' e
    obtain ⟨c, d⟩ := has_le w a
    obtain ⟨c', d'⟩ := hasF_le r b
    rw [hasF, hasF, c, d, c', d']; exact ⟨rfl, rfl⟩
end
theorem Reps.pure {ws : List W} {vs : List V} (r : Reps T Z L h ws vs) (p : hasL Fl.isMut ws = false) (L' : Hp) : Reps T Z L' emp ws vs := (r.bare (hasL_le ws p).1).keep (hasL_le ws p).2
theorem Reps.append : ∀ {ws ws' : List W} {vs vs' : List V}, Reps T Z L emp ws vs → Reps T Z L emp ws' vs' → Reps T Z L emp (ws ++ ws') (vs ++ vs')
  | _, _, _, _, .nil, t => t
  | _, _, _, _, .cons r t a b d, t' => .cons (r.wid a) ((t.wid b).append t') (.refl _) (.refl _) (.emp _)
theorem Reps.get : ∀ {h : Hp} {ws : List W} {vs : List V} {i : Nat} {w : W}, Reps T Z L h ws vs → ws[i]? = some w → ∃ v h1, vs[i]? = some v ∧ Rep T Z L h1 w v ∧ Sub h1 h
  | _, _, _, _, _, .nil, e => by simp at e
  | _, _, _, 0, _, .cons r t a b d, e => by
    have := Option.some.inj (by simpa using e); subst this
    exact ⟨_, _, rfl, r, a⟩
  | _, _, _, i + 1, _, .cons r t a b d, e => by
    obtain ⟨v, h1, x, y, z⟩ := t.get (i := i) (by simpa using e)
    exact ⟨v, h1, by simpa using x, y, z.trans b⟩
theorem Reps.take : ∀ {ws : List W} {vs : List V} (n : Nat), Reps T Z L emp ws vs → Reps T Z L emp (ws.take n) (vs.take n)
  | _, _, 0, _ => .nil
  | _, _, _ + 1, .nil => .nil
  | _, _, n + 1, .cons r t a b d => .cons r ((t.wid b).take n) a (.refl _) (d.subr (.emp _))
theorem Reps.drop : ∀ {ws : List W} {vs : List V} (n : Nat), Reps T Z L emp ws vs → Reps T Z L emp (ws.drop n) (vs.drop n)
  | _, _, 0, r => r
  | _, _, _ + 1, .nil => .nil
  | _, _, n + 1, .cons r t a b d => (t.wid b).drop n
theorem Reps.flatrep {ws : List W} {vs : List V} (r : Reps T Z L emp ws vs) : ∀ k : Nat, Reps T Z L emp (List.replicate k ws).flatten (List.replicate k vs).flatten
  | 0 => .nil
  | k + 1 => by
    rw [List.replicate_succ, List.replicate_succ, List.flatten_cons, List.flatten_cons]
    exact r.append (r.flatrep k)
theorem Reps.ints : ∀ {h : Hp} {ws : List W} {vs : List V} {ns : List Int}, Reps T Z L h ws vs → intsOf ws = some ns → vs = ns.map V.int
  | _, _, _, _, .nil, e => by cases e; rfl
  | _, _, _, _, .cons r t a b d, e => by
    cases r <;> simp only [intsOf, Option.map_eq_some_iff] at e <;> try (cases e; done)
    obtain ⟨ns, e, rfl⟩ := e
    rw [t.ints e]; rfl
theorem Reps.bls : ∀ {h : Hp} {ws : List W} {vs : List V} {ns : List Bool}, Reps T Z L h ws vs → blsOf ws = some ns → vs = ns.map V.bl
  | _, _, _, _, .nil, e => by cases e; rfl
  | _, _, _, _, .cons r t a b d, e => by
    cases r <;> simp only [blsOf, Option.map_eq_some_iff] at e <;> try (cases e; done)
    obtain ⟨ns, e, rfl⟩ := e
    rw [t.bls e]; rfl
theorem reps_ints : ∀ {h : Hp} (ns : List Int), Reps T Z L h (ns.map W.int) (ns.map V.int)
  | _, [] => .nil
  | _, n :: r => .cons (h1 := emp) (h2 := emp) .int (reps_ints r) (.emp _) (.emp _) (.emp _)
/-- a new list -/
theorem new_list {ws : List W} {vs : List V} {w : W} {Q : VK} (k : Hs L s) (r : Reps T s.Z L emp ws vs) (hq : ∀ v s' t, Post s s' t → s'.E = s.E → Rep T s'.Z L t (.lst .own ws) v → Q v s'.H) {p : Addr} (hp : s.H p = none) : Q (.ref p) (upd s.H p (.lst vs)) :=
  hq (.ref p) ⟨s.Z, s.E, upd s.H p (.lst vs)⟩ _ (Post.newT k hp) rfl (.lst (m := .own) (hc := emp) one_at ⟨.emp _, fun z => absurd rfl z⟩ rfl r)
theorem new_tup {ws : List W} {vs : List V} {Q : VK} (k : Hs L s) (r : Reps T s.Z L emp ws vs) (hq : ∀ v s' t, Post s s' t → s'.E = s.E → Rep T s'.Z L t (.tup ws) v → Q v s'.H) {p : Addr} (hp : s.H p = none) : Q (.ref p) (upd s.H p (.tup vs)) :=
  hq (.ref p) ⟨upd s.Z p (.tup vs), s.E, upd s.H p (.tup vs)⟩ _ (Post.newZ k hp) rfl (.tup (SqT.of upd_same) (r.up ((Sub.refl _).upd (k.zh.none hp))))
theorem opt_some {b : Bool} {α : Type} {a c : α} (h : opt b a = some c) : b = true ∧ a = c := by
  unfold opt at h
  split at h
  · rename_i e; exact ⟨e, Option.some.inj h⟩
  · cases h
/-! ## binary operators -/
theorem lst_obj {X : Cx} {pins : List (Addr × Obj)} {σ : St} {H : Hp} {st : Shared} (I : Inv X pins σ H st) {a : Addr} {xs : List V} (h : Rd H a (.lst xs)) :
    xs.length ≤ sizeLine ∧ ∃ (its : List Value) (n : Nat), Vals xs its ∧ st.heap.get? a = some { cls := .type "list", data := .seq its.toArray n } := h.ok I.hok
/-- list + list, whoever holds them -/
def rCatR : R2 := fun x y H Q => ∃ l b xs zs, x = .ref l ∧ y = .ref b ∧ Rd H l (.lst xs) ∧ Rd H b (.lst zs) ∧ xs.length + zs.length ≤ sizeLine ∧ ∀ p, H p = none → Q (.ref p) (upd H p (.lst (xs ++ zs)))
theorem op_catR : OpR X (binaryOp .Add) rCatR := fun pins st σ H x y v u Q I rx ry hw => by
  obtain ⟨l, b, xs, zs, rfl, rfl, h1, h2, hz, q⟩ := hw
  cases rx; cases ry
  obtain ⟨z1, i1, n1, r1, e1⟩ := lst_obj I h1
  obtain ⟨z2, i2, n2, r2, e2⟩ := lst_obj I h2
  have l1 := r1.length
  have l2 := r2.length
  refine PySem.P.add_list e1 e2 ?_ (by simp only [List.size_toArray]; omega)
  rw [show i1.toArray ++ i2.toArray = (i1 ++ i2).toArray by simp]
  exact ⟨V.ref _, _, I.lnew (t' := st.toks) (r1.append r2) (by rw [List.length_append]; exact hz), rfl, q _ I.fresh⟩
def rAddAll (K : PySem.W.Frag) : R2 := fun x y H Q => ((rI0 fun i j => .int (i + j)) x y H Q ∨ rCatR x y H Q) ∨ rCatA K x y H Q ∨ ∃ i j, x = .str i ∧ y = .str j ∧ i.length + j.length ≤ sizeLine ∧ Q (.str (i ++ j)) H
theorem op2_add (c : Ctx X T) : OpR X (binaryOp .Add) (rAddAll T.K) ∧ Op2 T (rAddAll T.K) (binF .add) := by
  refine ⟨?_, fun L s t1 t2 w1 w2 w v1 v2 Q k s1 s2 r1 r2 e hq => ?_⟩
  · rw [← c.kk]; exact (op_add.or op_catR).or (op_catA.or op_add_str)
  · unfold binF at e
    split at e <;> try (cases e; done)
    all_goals rename_i heq <;> try (cases heq; done)
    · cases e; cases r1; cases r2
      exact .inl (.inl ⟨_, _, rfl, rfl, hq _ s emp (Post.refl k) rfl .int⟩)
    · obtain ⟨e1, rfl⟩ := opt_some e
      cases r1; cases r2
      exact .inr (.inr ⟨_, _, rfl, rfl, by rw [← sz_eq]; exact of_decide_eq_true e1, hq _ s emp (Post.refl k) rfl .str⟩)
    · obtain ⟨e1, rfl⟩ := opt_some e
      simp only [Bool.and_eq_true, Bool.not_eq_true', decide_eq_true_eq] at e1
      obtain ⟨⟨p1, p2⟩, lz⟩ := e1
      obtain ⟨a, vs, hc, rfl, q1, r1, b1, _⟩ := r1.lst_inv k.zh k.lh s1
      obtain ⟨a', vs', hc', rfl, q2, r2, b2, _⟩ := r2.lst_inv k.zh k.lh s2
      refine .inl (.inr ⟨a, a', vs, vs', rfl, rfl, q1, q2, ?_, fun p hp => ?_⟩)
      · rw [← r1.length, ← r2.length, ← sz_eq]; exact lz
      · exact new_list (w := .non) k ((r1.pure p1 L).append (r2.pure p2 L)) hq hp
    · obtain ⟨e1, rfl⟩ := opt_some e
      simp only [Bool.and_eq_true, Bool.not_eq_true', decide_eq_true_eq] at e1
      obtain ⟨⟨p1, p2⟩, lz⟩ := e1
      obtain ⟨a, vs, rfl, q1, r1, z1⟩ := r1.tup_inv k.zh
      obtain ⟨a', vs', rfl, q2, r2, z2⟩ := r2.tup_inv k.zh
      refine .inr (.inl ⟨a, a', vs, vs', rfl, rfl, q1, q2, ?_, ?_⟩)
      · rw [← r1.length, ← r2.length, ← sz_eq]; exact lz
      · have z1 := r1.length
        have z2 := r2.length
        refine ⟨fun e0 => ?_, fun e0 e1 => ?_, fun e0 e1 p hp => new_tup k ((r1.pure p1 L).append (r2.pure p2 L)) hq hp⟩
        · subst e0
          have : _ = [] := List.length_eq_zero_iff.mp z1
          subst this
          rw [List.nil_append] at hq
          exact hq _ s emp (Post.refl k) rfl (.tup ‹_› (r2.pure p2 L))
        · subst e1
          have : _ = [] := List.length_eq_zero_iff.mp z2
          subst this
          rw [List.append_nil] at hq
          exact hq _ s emp (Post.refl k) rfl (.tup ‹_› (r1.pure p1 L))
theorem op2_int {C : Int → Int → Prop} {g : Int → Int → V} {F : W → W → Option W} (hF : ∀ w1 w2 w, F w1 w2 = some w → ∃ i j, w1 = .int i ∧ w2 = .int j ∧ C i j ∧ ∃ z, g i j = .int z ∧ w = .int z) : Op2 T (rI C g) F :=
  fun L s t1 t2 w1 w2 w v1 v2 Q k s1 s2 r1 r2 e hq => by
    obtain ⟨i, j, rfl, rfl, hc, z, hz, rfl⟩ := hF _ _ _ e
    cases r1; cases r2
    exact ⟨i, j, rfl, rfl, hc, by rw [hz]; exact hq _ s emp (Post.refl k) rfl .int⟩
theorem op2_sub : OpR X (binaryOp .Sub) (rI (fun _ _ => True) fun i j => .int (i - j)) ∧ Op2 T (rI (fun _ _ => True) fun i j => .int (i - j)) (binF .sub) := by
  refine ⟨opI fun _ _ _ _ _ _ _ _ q => PyProof.Rows.sub_int q, op2_int fun w1 w2 w e => ?_⟩
  unfold binF at e
  split at e <;> first | cases e; done | skip
  all_goals rename_i heq <;> first | (cases heq; done) | skip
  cases e
  exact ⟨_, _, rfl, rfl, trivial, _, rfl, rfl⟩
theorem op2_fdiv : OpR X (binaryOp .FloorDiv) (rI CDivW fun i j => .int (i / j)) ∧ Op2 T (rI CDivW fun i j => .int (i / j)) (binF .fdiv) := by
  refine ⟨op_fdivW, op2_int fun w1 w2 w e => ?_⟩
  unfold binF at e
  split at e <;> first | cases e; done | skip
  all_goals rename_i heq <;> first | (cases heq; done) | skip
  obtain ⟨e1, rfl⟩ := opt_some e
  simp only [Bool.and_eq_true, decide_eq_true_eq] at e1
  exact ⟨_, _, rfl, rfl, e1, _, rfl, rfl⟩
theorem op2_mod : OpR X (binaryOp .Mod) (rI (fun _ j => 0 < j) fun i j => .int (i % j)) ∧ Op2 T (rI (fun _ j => 0 < j) fun i j => .int (i % j)) (binF .mod) := by
  refine ⟨op_mod, op2_int fun w1 w2 w e => ?_⟩
  unfold binF at e
  split at e <;> first | cases e; done | skip
  all_goals rename_i heq <;> first | (cases heq; done) | skip
  obtain ⟨e1, rfl⟩ := opt_some e
  exact ⟨_, _, rfl, rfl, of_decide_eq_true e1, _, rfl, rfl⟩
def CPowW (i j : Int) : Prop := 0 ≤ j ∧ j ≤ 1000 ∧ i.natAbs.log2 < 1000
theorem op2_pow : OpR X (binaryOp .Pow) (rI CPowW fun i j => .int (i ^ j.toNat)) ∧ Op2 T (rI CPowW fun i j => .int (i ^ j.toNat)) (binF .pow) := by
  refine ⟨opI fun i j _ _ _ _ _ hc q => PyProof.Rows.pow_int hc.1 ?_ q, op2_int fun w1 w2 w e => ?_⟩
  · obtain ⟨h0, h1, h2⟩ := hc
    have hb : Builtin.Int.intBits i ≤ 1001 := by unfold Builtin.Int.intBits; split <;> omega
    have h3 : (Builtin.Int.intBits i : Int) * j ≤ 1001 * 1000 := Int.mul_le_mul (by omega) h1 h0 (by omega)
    omega
  unfold binF at e
  split at e <;> first | cases e; done | skip
  all_goals rename_i heq <;> first | (cases heq; done) | skip
  obtain ⟨e1, rfl⟩ := opt_some e
  simp only [Bool.and_eq_true, decide_eq_true_eq] at e1
  exact ⟨_, _, rfl, rfl, ⟨e1.1.1, e1.1.2, e1.2⟩, _, rfl, rfl⟩
def rMulAll : R2 := fun x y H Q => rI CMulW (fun i j => .int (i * j)) x y H Q ∨ rRep x y H Q
theorem op2_mul : OpR X (binaryOp .Mult) rMulAll ∧ Op2 T rMulAll (binF .mul) := by
  refine ⟨op_mulW.or op_rep, fun L s t1 t2 w1 w2 w v1 v2 Q k s1 s2 r1 r2 e hq => ?_⟩
  unfold binF at e
  split at e <;> first | cases e; done | skip
  all_goals rename_i heq <;> first | (cases heq; done) | skip
  · obtain ⟨e1, rfl⟩ := opt_some e
    cases r1; cases r2
    exact .inl ⟨_, _, rfl, rfl, (by have q := of_decide_eq_true e1; exact q), hq _ s emp (Post.refl k) rfl .int⟩
  · obtain ⟨e1, rfl⟩ := opt_some e
    simp only [Bool.and_eq_true, Bool.not_eq_true', decide_eq_true_eq] at e1
    obtain ⟨⟨⟨p1, b1⟩, b2⟩, lz⟩ := e1
    obtain ⟨a, vs, hc, rfl, q1, r1, _, qo⟩ := r1.lst_inv k.zh k.lh s1
    cases r2
    refine .inr ⟨a, _, vs, rfl, rfl, qo rfl, by omega, by omega, by rw [← r1.length, ← sz_eq]; exact lz, fun p hp => ?_⟩
    exact new_list (w := .non) k ((r1.pure p1 L).flatrep _) hq hp
end
end VL
set_option Elab.async false
set_option linter.all false
set_option maxRecDepth 100000
set_option maxHeartbeats 1000000
namespace VL
open PySem L2
/-! ## dicts as trees -/
section
variable {X : Cx} {T : Tb} {E : XK} {Z L h : Hp} {s : Sx}
theorem Rep.dct_inv {m : Fl} {kvs : List (Key × W)} {v : V} {H : Hp} (r : Rep T Z L h (.dct m kvs) v) (z : Sub Z H) (l : Sub L H) (k : Sub h H) :
    ∃ a vs hc, v = .ref a ∧ Rd H a (.dK vs) ∧ kvs.map (·.1) = vs.map (·.1) ∧ (kvs.map (·.1)).Nodup ∧ Reps T Z L hc (kvs.map (·.2)) (vs.map (·.2)) ∧ Sub hc h := by
  cases r with
  | dct q kd n ek nd r =>
    rename_i hc a vs
    refine ⟨a, vs, hc, rfl, ?_, ek, nd, r, kd.sub⟩
    cases m with
    | own => exact Rd.of (k _ _ q)
    | frz => exact rd_sub z q
    | lnt => exact rd_sub l q
theorem keyOf_rep {k : W} {key : Key} {v : V} (e : keyOf k = some key) (r : Rep T Z L h k v) : v = kV key := by
  cases k <;> simp [keyOf] at e <;> subst e <;> cases r <;> rfl
theorem getK_none : ∀ {kvs : List (Key × W)} {vs : List (Key × V)} {k : Key}, kvs.map (·.1) = vs.map (·.1) → getK k kvs = none → valV vs k = none
  | [], [], _, _, _ => rfl
  | [], _ :: _, _, e, _ => by simp at e
  | _ :: _, [], _, e, _ => by simp at e
  | (g, x) :: kvs, (n, y) :: vs, k, e, h => by
    simp only [List.map_cons, List.cons.injEq] at e
    rw [getK] at h
    split at h
    · cases h
    · rename_i hne
      rw [valV_neg (by rw [← e.1]; exact hne)]
      exact getK_none e.2 h
theorem getK_some : ∀ {g : Hp} {kvs : List (Key × W)} {vs : List (Key × V)} {k : Key} {w : W}, kvs.map (·.1) = vs.map (·.1) → Reps T Z L g (kvs.map (·.2)) (vs.map (·.2)) → getK k kvs = some w →
    ∃ v h1, valV vs k = some v ∧ Rep T Z L h1 w v ∧ Sub h1 g
  | _, [], _, _, _, _, _, e => by simp [getK] at e
  | _, _ :: _, [], _, _, e, _, _ => by simp at e
  | g, (i, x) :: kvs, (n, y) :: vs, k, w, e, r, l => by
    simp only [List.map_cons, List.cons.injEq] at e r
    cases r with
    | cons r1 r2 a b d =>
      rw [getK] at l
      split at l
      · rename_i hk
        cases l
        exact ⟨y, _, valV_pos (by rw [← e.1]; exact hk), r1, a⟩
      · rename_i hk
        obtain ⟨v, h1, x1, x2, x3⟩ := getK_some e.2 r2 l
        exact ⟨v, h1, by rw [valV_neg (by rw [← e.1]; exact hk)]; exact x1, x2, x3.trans b⟩
theorem setK_in : ∀ {kvs : List (Key × W)} {k : Key} {w : W}, k ∈ kvs.map (·.1) → (setK k w kvs).map (·.1) = kvs.map (·.1)
  | [], k, w, h => by simp at h
  | (g, x) :: r, k, w, h => by
    rw [setK]
    by_cases e : g = k
    · subst e; simp
    · rw [if_neg e]
      rw [List.map_cons, List.map_cons]
      rw [List.map_cons, List.mem_cons] at h
      rw [setK_in (h.resolve_left fun z => e z.symm)]
theorem setK_out : ∀ {kvs : List (Key × W)} {k : Key} {w : W}, k ∉ kvs.map (·.1) → (setK k w kvs).map (·.1) = kvs.map (·.1) ++ [k]
  | [], k, w, h => rfl
  | (g, x) :: r, k, w, h => by
    rw [List.map_cons, List.mem_cons, not_or] at h
    rw [setK, if_neg fun z => h.1 z.symm, List.map_cons, setK_out h.2]
    rfl
theorem setK_nodup {kvs : List (Key × W)} {k : Key} {w : W} (nd : (kvs.map (·.1)).Nodup) : ((setK k w kvs).map (·.1)).Nodup := by
  by_cases h : k ∈ kvs.map (·.1)
  · rw [setK_in h]; exact nd
  · rw [setK_out h, List.nodup_append]
    refine ⟨nd, by simp, fun a ha b hb => ?_⟩
    have : b = k := by simpa using hb
    subst this
    intro z; subst z; exact h ha
theorem setK_length {kvs : List (Key × W)} {k : Key} {w : W} : (setK k w kvs).length ≤ kvs.length + 1 := by
  by_cases h : k ∈ kvs.map (·.1)
  · have := congrArg List.length (setK_in (w := w) h)
    simp at this; omega
  · have := congrArg List.length (setK_out (w := w) h)
    simp at this; omega
/-- what putK does where keys are single: first place or the end -/
def setV (k : Key) (w : V) : List (Key × V) → List (Key × V)
  | [] => [(k, w)]
  | (g, x) :: r => if g = k then (k, w) :: r else (g, x) :: setV k w r
theorem mapV_none {vs : List (Key × V)} {k : Key} {v : V} (h : k ∉ vs.map (·.1)) : vs.map (fun kv => if kv.1 = k then (kv.1, v) else kv) = vs := by
  induction vs with
  | nil => rfl
  | cons p r ih =>
    simp only [List.map_cons, List.mem_cons, not_or] at h ⊢
    rw [if_neg (fun z => h.1 z.symm), ih h.2]
theorem putK_eq : ∀ {vs : List (Key × V)} {k : Key} {v : V}, (vs.map (·.1)).Nodup → putK vs k v = setV k v vs
  | [], k, v, _ => by simp [putK, setV]
  | (g, x) :: r, k, v, nd => by
    simp only [List.map_cons, List.nodup_cons] at nd
    rw [setV]
    by_cases h : g = k
    · subst h
      rw [if_pos rfl]
      unfold putK
      simp only [List.any_cons, decide_true, Bool.true_or, if_true, List.map_cons]
      rw [mapV_none nd.1]
    · rw [if_neg h, ← putK_eq nd.2]
      unfold putK
      simp only [List.any_cons, decide_eq_false h, Bool.false_or, List.map_cons, if_neg h]
      split <;> rfl
theorem setV_same : ∀ {vs : List (Key × V)} {k : Key} {v : V}, valV vs k = some v → setV k v vs = vs
  | [], _, _, h => by simp [valV] at h
  | (g, x) :: r, k, v, h => by
    rw [setV]
    by_cases e : g = k
    · subst e
      rw [valV_pos rfl] at h
      cases h
      rw [if_pos rfl]
    · rw [valV_neg e] at h
      rw [if_neg e, setV_same h]
/-- a value put in: what was there is dropped -/
theorem setK_rep : ∀ {g t : Hp} {kvs : List (Key × W)} {vs : List (Key × V)} {k : Key} {w : W} {v : V}, kvs.map (·.1) = vs.map (·.1) → Reps T Z L g (kvs.map (·.2)) (vs.map (·.2)) → Rep T Z L t w v → Dj g t →
    (setK k w kvs).map (·.1) = (setV k v vs).map (·.1) ∧ Reps T Z L (join g t) ((setK k w kvs).map (·.2)) ((setV k v vs).map (·.2))
  | g, t, [], [], k, w, v, _, _, r, d => ⟨rfl, .cons (h1 := t) (h2 := emp) r .nil (.joinr d) (.emp _) (.emp' _)⟩
  | _, _, [], _ :: _, _, _, _, e, _, _, _ => by simp at e
  | _, _, _ :: _, [], _, _, _, e, _, _, _ => by simp at e
  | g, t, (i, x) :: kvs, (n, y) :: vs, k, w, v, e, r, q, d => by
    simp only [List.map_cons, List.cons.injEq] at e r
    obtain ⟨rfl, e⟩ := e
    cases r with
    | cons r1 r2 a b dd =>
      rw [setK, setV]
      by_cases h : i = k
      · rw [if_pos h, if_pos h]
        simp only [List.map_cons, List.cons.injEq]
        exact ⟨⟨trivial, e⟩, .cons q r2 (.joinr d) (b.trans (.joinl _ _)) (d.symm.subr b)⟩
      · rw [if_neg h, if_neg h]
        obtain ⟨z1, z2⟩ := setK_rep (k := k) e r2 q (d.subl b)
        simp only [List.map_cons, List.cons.injEq]
        exact ⟨⟨trivial, z1⟩, .cons r1 z2 (a.trans (.joinl _ _)) ((b.trans (.joinl _ _)).join (.joinr d)) (dd.joinr (d.subl a))⟩
/-- the value at a key taken out, and one put back in its place -/
theorem kfocus : ∀ {g : Hp} {kvs : List (Key × W)} {vs : List (Key × V)} {k : Key} {w : W}, kvs.map (·.1) = vs.map (·.1) → Reps T Z L g (kvs.map (·.2)) (vs.map (·.2)) → getK k kvs = some w →
    ∃ v h1 h2, valV vs k = some v ∧ Rep T Z L h1 w v ∧ Sub h1 g ∧ Sub h2 g ∧ Dj h1 h2 ∧ ∀ (Z' h1' : Hp) (w' : W), Sub Z Z' → Rep T Z' L h1' w' v → Dj h2 h1' →
      Reps T Z' L (join h2 h1') ((setK k w' kvs).map (·.2)) (vs.map (·.2)) ∧ (setK k w' kvs).map (·.1) = kvs.map (·.1)
  | _, [], _, _, _, _, _, e => by simp [getK] at e
  | _, _ :: _, [], _, _, e, _, _ => by simp at e
  | g, (i, x) :: kvs, (n, y) :: vs, k, w, e, r, l => by
    simp only [List.map_cons, List.cons.injEq] at e r
    obtain ⟨rfl, e⟩ := e
    cases r with
    | cons r1 r2 a b d =>
      rename_i k1 k2
      rw [getK] at l
      by_cases hk : i = k
      · rw [if_pos hk] at l
        cases l
        refine ⟨y, k1, k2, valV_pos hk, r1, a, b, d, fun Z' h1' w' z r' d' => ?_⟩
        rw [setK, if_pos hk]
        simp only [List.map_cons, List.cons.injEq]
        exact ⟨.cons r' (r2.up z) (.joinr d') (.joinl _ _) d'.symm, hk.symm, trivial⟩
      · rw [if_neg hk] at l
        obtain ⟨v, h1, h2, x1, x2, x3, x4, x5, x6⟩ := kfocus e r2 l
        refine ⟨v, h1, join k1 h2, by rw [valV_neg hk]; exact x1, x2, x3.trans b, a.join (x4.trans b), (d.symm.subl x3).joinr x5, fun Z' h1' w' z r' d' => ?_⟩
        obtain ⟨y1, y2⟩ := x6 Z' h1' w' z r' (d'.subl (.joinr (d.subr x4)))
        have d1 : Dj k1 h1' := d'.subl (.joinl _ _)
        rw [setK, if_neg hk]
        simp only [List.map_cons, List.cons.injEq]
        exact ⟨.cons (r1.up z) y1 ((Sub.joinl k1 h2).trans (.joinl _ _)) (((Sub.joinr (d.subr x4)).trans (.joinl _ _)).join (.joinr d')) ((d.subr x4).joinr d1), trivial, y2⟩
theorem merge_rep : ∀ {more : List (Key × W)} {ms : List (Key × V)} {g : Hp} {kvs : List (Key × W)} {vs : List (Key × V)}, kvs.map (·.1) = vs.map (·.1) → (kvs.map (·.1)).Nodup → Reps T Z L g (kvs.map (·.2)) (vs.map (·.2)) → more.map (·.1) = ms.map (·.1) → Reps T Z L emp (more.map (·.2)) (ms.map (·.2)) →
    (mergeW kvs more).map (·.1) = (mergeK vs ms).map (·.1) ∧ ((mergeW kvs more).map (·.1)).Nodup ∧ Reps T Z L g ((mergeW kvs more).map (·.2)) ((mergeK vs ms).map (·.2))
  | [], [], g, kvs, vs, e, nd, r, _, _ => by rw [mergeW]; exact ⟨e, nd, r⟩
  | [], _ :: _, _, _, _, _, _, _, e, _ => by simp at e
  | _ :: _, [], _, _, _, _, _, _, e, _ => by simp at e
  | (k, w) :: more, (n, v) :: ms, g, kvs, vs, e, nd, r, e2, r2 => by
    simp only [List.map_cons, List.cons.injEq] at e2 r2
    obtain ⟨rfl, e2⟩ := e2
    cases r2 with
    | cons q1 q2 a b d =>
      have q1 : Rep T Z L emp w v := q1.wid a
      have q2 : Reps T Z L emp (more.map (·.2)) (ms.map (·.2)) := q2.wid b
      obtain ⟨z1, z2⟩ := setK_rep (k := k) e r q1 (.emp' _)
      have z2 := z2.wid ((Sub.refl g).join (.emp _))
      have nv : (vs.map (·.1)).Nodup := by rw [← e]; exact nd
      rw [mergeW]
      have : mergeK vs ((k, v) :: ms) = mergeK (setV k v vs) ms := by
        unfold mergeK
        rw [List.foldl_cons, putK_eq nv]
      rw [this]
      exact merge_rep z1 (setK_nodup nd) z2 e2 q2
theorem mergeK_len : ∀ {ms vs : List (Key × V)}, (mergeK vs ms).length ≤ vs.length + ms.length
  | [], vs => by simp [mergeK]
  | (k, v) :: ms, vs => by
    have h1 := mergeK_len (ms := ms) (vs := putK vs k v)
    have h2 := length_putK vs k v
    have : mergeK vs ((k, v) :: ms) = mergeK (putK vs k v) ms := by unfold mergeK; rw [List.foldl_cons]
    rw [this, List.length_cons]
    omega
theorem new_dct {kvs : List (Key × W)} {vs : List (Key × V)} {Q : VK} (k : Hs L s) (e : kvs.map (·.1) = vs.map (·.1)) (nd : (kvs.map (·.1)).Nodup) (r : Reps T s.Z L emp (kvs.map (·.2)) (vs.map (·.2)))
    (hq : ∀ v s' t, Post s s' t → s'.E = s.E → Rep T s'.Z L t (.dct .own kvs) v → Q v s'.H) {p : Addr} (hp : s.H p = none) : Q (.ref p) (upd s.H p (.dK vs)) := by
  have pn := Post.newT (o := .dK vs) k hp
  exact hq _ ⟨s.Z, s.E, upd s.H p (.dK vs)⟩ _ pn rfl (.dct (m := .own) (hc := emp) one_at ⟨.emp _, fun z => absurd rfl z⟩ rfl e nd r)
end
end VL
set_option Elab.async false
set_option linter.all false
set_option maxRecDepth 100000
set_option maxHeartbeats 1000000
namespace VL
open PySem L2
section
variable {X : Cx} {T : Tb} {E : XK} {Z L h : Hp} {s : Sx}
/-! ## comparisons -/
def OpB (T : Tb) (r : R2) (F : W → W → Option Bool) : Prop := ∀ (L : Hp) (s : Sx) (t1 t2 : Hp) (w1 w2 : W) (b : Bool) (v1 v2 : V) (Q : VK), Hs L s → Sub t1 s.H → Sub t2 s.H → Rep T s.Z L t1 w1 v1 → Rep T s.Z L t2 w2 v2 →
  F w1 w2 = some b → Q (.bl b) s.H → r v1 v2 s.H Q
theorem OpB.op2 {r : R2} {F : W → W → Option Bool} (h : OpB T r F) : Op2 T r (fun a b => (F a b).map W.bl) := fun L s t1 t2 w1 w2 w v1 v2 Q k s1 s2 r1 r2 e hq => by
  obtain ⟨b, e1, rfl⟩ := Option.map_eq_some_iff.mp e
  exact h L s t1 t2 w1 w2 b v1 v2 Q k s1 s2 r1 r2 e1 (hq _ s emp (Post.refl k) rfl .bl)
mutual
theorem Rep.dp : ∀ {g : Hp} {w : W} {v : V} {H : Hp}, Rep T Z L g w v → Sub Z H → Sub L H → Sub g H → w.plain = true → Dp T.K H v w.dat
  | _, _, _, _, .non, _, _, _, _ => .non
  | _, _, _, _, .bl, _, _, _, _ => .bl _
  | _, _, _, _, .int, _, _, _, _ => .int _
  | _, _, _, _, .str, _, _, _, _ => .str _
  | _, _, _, _, .tup q r, z, l, g, p => by
    rw [W.plain] at p
    rw [W.dat]
    exact .tup (sqT_sub z q) (r.dps z l g p)
  | _, _, _, _, @Rep.lst _ _ _ _ _ m _ _ _ q k n r, z, l, g, p => by
    rw [W.plain] at p
    rw [W.dat]
    refine .lst (.inl ?_) (r.dps z l (k.sub.trans g) p)
    cases m with
    | own => exact Rd.of (g _ _ q)
    | frz => exact rd_sub z q
    | lnt => exact Rd.of (l _ _ q)
  | _, _, _, _, .dct _ _ _ _ _ _, _, _, _, p => by rw [W.plain] at p; cases p
  | _, _, _, _, .ins _ _ _ _ _ _ _, _, _, _, p => by rw [W.plain] at p; cases p
theorem Reps.dps : ∀ {g : Hp} {ws : List W} {vs : List V} {H : Hp}, Reps T Z L g ws vs → Sub Z H → Sub L H → Sub g H → plainL ws = true → DpAll T.K H vs (datL ws)
  | _, _, _, _, .nil, _, _, _, _ => .nil
  | _, _, _, _, .cons r t a b d, z, l, g, p => by
    rw [plainL, Bool.and_eq_true] at p
    rw [datL]
    exact .cons (r.dp z l (a.trans g) p.1) (t.dps z l (b.trans g) p.2)
end
theorem eqF_cases {w1 w2 : W} {b : Bool} (e : eqF w1 w2 = some b) : eqD w1 w2 = some b ∨ ∃ x y, w1 = .str x ∧ w2 = .str y ∧ b = (x == y) := by
  unfold eqF at e
  split at e
  · exact .inr ⟨_, _, rfl, rfl, by cases e; rfl⟩
  · exact .inl e
abbrev rEqW (K : PySem.W.Frag) : R2 := fun x y H Q => rEqD K x y H Q ∨ rEq x y H Q
abbrev rNeW (K : PySem.W.Frag) : R2 := fun x y H Q => rNeD K x y H Q ∨ rNe x y H Q
theorem opb_eq : OpB T (rEqW T.K) eqF := fun L s t1 t2 w1 w2 b v1 v2 Q k s1 s2 r1 r2 e q => by
  rcases eqF_cases e with e | ⟨x, y, rfl, rfl, rfl⟩
  · obtain ⟨e1, rfl⟩ := opt_some e
    simp only [Bool.and_eq_true] at e1
    obtain ⟨⟨⟨p1, p2⟩, h1⟩, h2⟩ := e1
    exact .inl ⟨_, _, r1.dp k.zh k.lh s1 p1, r2.dp k.zh k.lh s2 p2, h1, h2, q⟩
  · cases r1; cases r2
    exact .inr ⟨rfl, by rw [dec_str]; exact q⟩
theorem opb_ne : OpB T (rNeW T.K) (fun a b => (eqF a b).map (!·)) := fun L s t1 t2 w1 w2 b v1 v2 Q k s1 s2 r1 r2 e q => by
  obtain ⟨b', e0, rfl⟩ := Option.map_eq_some_iff.mp e
  rcases eqF_cases e0 with e0 | ⟨x, y, rfl, rfl, rfl⟩
  · obtain ⟨e1, rfl⟩ := opt_some e0
    simp only [Bool.and_eq_true] at e1
    obtain ⟨⟨⟨p1, p2⟩, h1⟩, h2⟩ := e1
    exact .inl ⟨_, _, r1.dp k.zh k.lh s1 p1, r2.dp k.zh k.lh s2 p2, h1, h2, q⟩
  · cases r1; cases r2
    exact .inr ⟨rfl, by rw [dec_str]; exact q⟩
/-- the comparison's operator in the text, and what it does -/
def CmpO.op : CmpO → CmpOp
  | .eq => .Eq | .ne => .NotEq | .lt => .Lt | .le => .LtE | .gt => .Gt | .ge => .GtE | .inn => .In | .nin => .NotIn | .isn => .Is | .inn2 => .IsNot
def rDIn : R2 := fun y x H Q => ∃ a o, x = .ref a ∧ DGet H a y o ∧ Q (.bl o.isSome) H
def rDNin : R2 := fun y x H Q => ∃ a o, x = .ref a ∧ DGet H a y o ∧ Q (.bl (!o.isSome)) H
theorem op_din (hu : X.A.units + 1 < cLine) : OpR X (compareOp .In) rDIn := fun pins s σ H y x v u Q I ry rx h => by
  obtain ⟨a, o, rfl, g, q⟩ := h
  cases rx
  exact d_in hu I g ry fun s3 I3 => ⟨.bl o.isSome, H, I3, rfl, q⟩
theorem op_dnin (hu : X.A.units + 1 < cLine) : OpR X (compareOp .NotIn) rDNin := fun pins s σ H y x v u Q I ry rx h => by
  obtain ⟨a, o, rfl, g, q⟩ := h
  cases rx
  exact d_notIn hu I g ry fun s3 I3 => ⟨.bl (!o.isSome), H, I3, rfl, q⟩
def rSgn : R2 := fun x y H Q => ∃ (c : Nat) (z : Str), x = .str ⟨#[c]⟩ ∧ y = .str z ∧ Q (.bl (decide (c ∈ z.cps.toList))) H
def rNSgn : R2 := fun x y H Q => ∃ (c : Nat) (z : Str), x = .str ⟨#[c]⟩ ∧ y = .str z ∧ Q (.bl (!decide (c ∈ z.cps.toList))) H
def rInn (K : PySem.W.Frag) : R2 := fun x y H Q => (rDIn x y H Q ∨ rInD K x y H Q) ∨ (rIn K false x y H Q ∨ rSgn x y H Q)
def rNin (K : PySem.W.Frag) : R2 := fun x y H Q => (rDNin x y H Q ∨ rNotInD K x y H Q) ∨ (rIn K true x y H Q ∨ rNSgn x y H Q)
theorem Ctx.un1 (c : Ctx X T) : X.A.units + 1 < cLine := by have := c.un; omega
theorem flat_rep {g : Hp} {w : W} {v : V} (h : w.flat = true) (r : Rep T Z L g w v) : flatV v = true := by
  cases r <;> first | rfl | cases h
theorem flats_rep {g : Hp} : ∀ {ws : List W} {vs : List V}, ws.all W.flat = true → Reps T Z L g ws vs → vs.all flatV = true
  | _, _, _, .nil => rfl
  | _, _, h, .cons r t a b d => by
    simp only [List.all_cons, Bool.and_eq_true] at h ⊢
    exact ⟨flat_rep h.1 r, flats_rep h.2 (t.wid b)⟩
theorem eqFl_rep {g g' : Hp} {w w' : W} {v v' : V} (h : w.flat = true) (h' : w'.flat = true) (r : Rep T Z L g w v) (r' : Rep T Z L g' w' v') : eqV v v' = eqFl w w' := by
  cases r <;> cases r' <;> first | rfl | cases h | cases h'
theorem any_rep {g' : Hp} {w' : W} {v' : V} (h' : w'.flat = true) (r' : Rep T Z L g' w' v') : ∀ {ws : List W} {vs : List V} {g : Hp}, ws.all W.flat = true → Reps T Z L g ws vs → inV v' vs = ws.any fun z => eqFl z w'
  | _, _, _, _, .nil => rfl
  | _, _, _, h, .cons r t a b d => by
    simp only [List.all_cons, Bool.and_eq_true] at h
    have ih := any_rep h' r' h.2 t
    unfold inV at ih ⊢
    rw [List.any_cons, List.any_cons, eqFl_rep h.1 h' r r', ih]
theorem inn_ok {neg : Bool} {b : Bool} {w1 w2 : W} {t1 t2 : Hp} {v1 v2 : V} {Q : VK} (k : Hs L s) (s1 : Sub t1 s.H) (s2 : Sub t2 s.H) (r1 : Rep T s.Z L t1 w1 v1) (r2 : Rep T s.Z L t2 w2 v2) (e : inF w1 w2 = some b) (q : Q (.bl (if neg then !b else b)) s.H) :
    (if neg then rNin T.K else rInn T.K) v1 v2 s.H Q := by
  unfold inF at e
  split at e
  · obtain ⟨key, hk, rfl⟩ := Option.map_eq_some_iff.mp e
    have ev := keyOf_rep hk r1
    obtain ⟨a, vs, hc, rfl, q1, ek, nd, rr, b1⟩ := r2.dct_inv k.zh k.lh s2
    have hs : (getK key ‹_›).isSome = (valV vs key).isSome := by
      cases hg : getK key ‹_› with
      | none => rw [getK_none ek hg]; rfl
      | some w =>
        obtain ⟨v, h1, x1, _, _⟩ := getK_some ek rr hg
        rw [x1]; rfl
    rw [hs] at q
    have dg : DGet s.H a v1 (valV vs key) := .inl ⟨vs, key, q1, ev, rfl⟩
    cases neg with
    | true => exact .inl (.inl ⟨a, _, rfl, dg, q⟩)
    | false => exact .inl (.inl ⟨a, _, rfl, dg, q⟩)
  · rename_i m ws
    split at e
    · rename_i hf
      simp only [Bool.and_eq_true] at hf
      cases e
      obtain ⟨a, vs, hc, rfl, q1, rr, b1, _⟩ := r2.lst_inv k.zh k.lh s2
      rw [← any_rep hf.1 r1 hf.2 rr] at q
      cases neg with
      | true => exact .inr (.inl ⟨a, vs, rfl, .inl (.inl q1), flat_rep hf.1 r1, flats_rep hf.2 rr, q⟩)
      | false => exact .inr (.inl ⟨a, vs, rfl, .inl (.inl q1), flat_rep hf.1 r1, flats_rep hf.2 rr, q⟩)
    · obtain ⟨e1, rfl⟩ := opt_some e
      simp only [Bool.and_eq_true] at e1
      obtain ⟨⟨⟨p1, p2⟩, h1⟩, h2⟩ := e1
      have d1 := r1.dp k.zh k.lh s1 p1
      have d2 : Dp T.K s.H v2 (.list (datL ws)) := by
        have := r2.dp k.zh k.lh s2 (by rw [W.plain]; exact p2)
        rw [W.dat] at this
        exact this
      cases neg with
      | true => exact .inl (.inr ⟨_, _, d1, d2, h1, h2, q⟩)
      | false => exact .inl (.inr ⟨_, _, d1, d2, h1, h2, q⟩)
  · obtain ⟨e1, rfl⟩ := opt_some e
    simp only [Bool.and_eq_true] at e1
    obtain ⟨a, vs, rfl, q1, rr, _⟩ := r2.tup_inv k.zh
    rw [← any_rep e1.1 r1 e1.2 rr] at q
    cases neg with
    | true => exact .inr (.inl ⟨a, vs, rfl, .inr q1, flat_rep e1.1 r1, flats_rep e1.2 rr, q⟩)
    | false => exact .inr (.inl ⟨a, vs, rfl, .inr q1, flat_rep e1.1 r1, flats_rep e1.2 rr, q⟩)
  · split at e
    · split at e
      · rename_i x _ c hx
        cases e
        cases r1; cases r2
        have ex : x = ⟨#[c]⟩ := by
          obtain ⟨cps⟩ := x
          congr 1
          exact Array.toList_inj.mp hx
        subst ex
        cases neg with
        | true => exact .inr (.inr ⟨c, _, rfl, rfl, q⟩)
        | false => exact .inr (.inr ⟨c, _, rfl, rfl, q⟩)
      · cases e
    · cases e
  · cases e
def rCmp (K : PySem.W.Frag) : CmpO → R2
  | .eq => rEqW K
  | .ne => rNeW K
  | .lt => rI0 fun i j => .bl (decide (i < j))
  | .le => rI0 fun i j => .bl (decide (i ≤ j))
  | .gt => rI0 fun i j => .bl (decide (j < i))
  | .ge => rI0 fun i j => .bl (decide (j ≤ i))
  | .inn => rInn K
  | .nin => rNin K
  | .isn => fun x y H Q => y = .non ∧ Q (.bl (decide (x = .non))) H
  | .inn2 => fun x y H Q => y = .non ∧ Q (.bl (!decide (x = .non))) H
theorem rep_non {g : Hp} {w : W} {v : V} (r : Rep T Z L g w v) : decide (v = .non) = (match w with | .non => true | _ => false) := by
  cases r <;> first | rfl | exact decide_eq_false (fun h => nomatch h)
theorem op_cmp (c : Ctx X T) (o : CmpO) : OpR X (compareOp o.op) (rCmp T.K o) := by
  cases o with
  | eq => rw [← c.kk]; exact (op_eqD c.un).or op_eq
  | ne => rw [← c.kk]; exact (op_neD c.un).or op_ne
  | lt => exact op_lt
  | le => exact op_le
  | gt => exact op_gt
  | ge => exact op_ge
  | inn => rw [← c.kk]; exact ((op_din c.un1).or (op_inD (by have := c.un2; omega))).or (op_in_seq.or op_in_sign)
  | nin => rw [← c.kk]; exact ((op_dnin c.un1).or (op_notInD (by have := c.un2; omega))).or (op_notIn_seq.or op_notIn_sign)
  | isn => exact op_isN
  | inn2 => exact op_notN
theorem opb_cmp (o : CmpO) : OpB T (rCmp T.K o) (cmpF o) := by
  intro L s t1 t2 w1 w2 b v1 v2 Q k s1 s2 r1 r2 e q
  cases o with
  | eq => exact opb_eq L s t1 t2 w1 w2 b v1 v2 Q k s1 s2 r1 r2 (by rw [cmpF] at e; exact e) q
  | ne => exact opb_ne L s t1 t2 w1 w2 b v1 v2 Q k s1 s2 r1 r2 (by rw [cmpF] at e; exact e) q
  | inn => exact inn_ok (neg := false) k s1 s2 r1 r2 (by rw [cmpF] at e; exact e) q
  | nin =>
    rw [cmpF] at e
    obtain ⟨b', e', rfl⟩ := Option.map_eq_some_iff.mp e
    exact inn_ok (neg := true) k s1 s2 r1 r2 e' q
  | isn =>
    have : w2 = .non := by cases w2 <;> first | rfl | (exfalso; cases w1 <;> simp [cmpF] at e)
    subst this
    cases r2
    refine ⟨rfl, ?_⟩
    rw [rep_non r1]
    cases w1 <;> (unfold cmpF at e; cases e; exact q)
  | inn2 =>
    have : w2 = .non := by cases w2 <;> first | rfl | (exfalso; cases w1 <;> simp [cmpF] at e)
    subst this
    cases r2
    refine ⟨rfl, ?_⟩
    rw [rep_non r1]
    cases w1 <;> (unfold cmpF at e; cases e; exact q)
  | lt =>
    cases w1 <;> cases w2 <;> first | (exfalso; simp [cmpF] at e; done) | skip
    simp only [cmpF, Option.some.injEq] at e
    subst e
    cases r1; cases r2
    exact ⟨_, _, rfl, rfl, q⟩
  | le =>
    cases w1 <;> cases w2 <;> first | (exfalso; simp [cmpF] at e; done) | skip
    simp only [cmpF, Option.some.injEq] at e
    subst e
    cases r1; cases r2
    exact ⟨_, _, rfl, rfl, q⟩
  | gt =>
    cases w1 <;> cases w2 <;> first | (exfalso; simp [cmpF] at e; done) | skip
    simp only [cmpF, Option.some.injEq] at e
    subst e
    cases r1; cases r2
    exact ⟨_, _, rfl, rfl, q⟩
  | ge =>
    cases w1 <;> cases w2 <;> first | (exfalso; simp [cmpF] at e; done) | skip
    simp only [cmpF, Option.some.injEq] at e
    subst e
    cases r1; cases r2
    exact ⟨_, _, rfl, rfl, q⟩
/-! ## items, slices, fields -/
theorem atI_map {ws : List W} {vs : List V} {i : Int} {w : W} {g : Hp} (r : Reps T Z L g ws vs) (e : atI ws i = some w) : ∃ v h1, atI vs i = some v ∧ Rep T Z L h1 w v ∧ Sub h1 g := by
  unfold atI at *
  rw [← r.length]
  cases q : ixN ws.length i with
  | none => rw [q] at e; cases e
  | some j =>
    rw [q] at e
    exact r.get e
def rIxDc : R2 := fun x y H Q => ∃ a v, x = .ref a ∧ DGet H a y (some v) ∧ Q v H
theorem ix_dct (hu : X.A.units + 1 < cLine) : IxR X rIxDc := by
  intro value slice pins s σ H x y v u Q I rx ry h hs
  obtain ⟨a, w, rfl, g, q⟩ := h
  cases rx
  exact PyProof.Rows.tail_any (dict_typeIs I g) PySem.F.slot_dict_getitem.lookup (d_getItem hu I g ry fun w' s3 I3 rw' => ⟨w, H, I3, rw', q⟩) hs
def rIxAll (K : PySem.W.Frag) : R2 := fun x y H Q => (rIxL K x y H Q ∨ rIxT K x y H Q) ∨ rIxDc x y H Q ∨ rIxS x y H Q
theorem op2_idx (c : Ctx X T) : IxR X (rIxAll T.K) ∧
    ∀ (L : Hp) (s : Sx) (t1 t2 : Hp) (w1 w2 w : W) (v1 v2 : V) (Q : VK), Hs L s → Sub t1 s.H → Sub t2 s.H → Rep T s.Z L t1 w1 v1 → Rep T s.Z L t2 w2 v2 → idxF w1 w2 = some w →
      (∀ v h1, Sub h1 t1 → Rep T s.Z L h1 w v → Q v s.H) → rIxAll T.K v1 v2 s.H Q := by
  refine ⟨by rw [← c.kk]; exact (ix_list.or ix_tup).or ((ix_dct c.un1).or ix_str), fun L s t1 t2 w1 w2 w v1 v2 Q k s1 s2 r1 r2 e hq => ?_⟩
  unfold idxF at e
  split at e
  · obtain ⟨a, vs, hc, rfl, q1, r1, b1, _⟩ := r1.lst_inv k.zh k.lh s1
    cases r2
    obtain ⟨v, h1, e1, r', sb⟩ := atI_map r1 e
    exact .inl (.inl ⟨a, vs, _, v, rfl, rfl, .inl q1, e1, hq v h1 (sb.trans b1) r'⟩)
  · obtain ⟨a, vs, rfl, q1, r1, _⟩ := r1.tup_inv k.zh
    cases r2
    obtain ⟨v, h1, e1, r', sb⟩ := atI_map r1 e
    exact .inl (.inr ⟨a, vs, _, v, rfl, rfl, q1, e1, hq v h1 sb r'⟩)
  · obtain ⟨key, hk, e⟩ := Option.bind_eq_some_iff.mp e
    have ev := keyOf_rep hk r2
    obtain ⟨a, vs, hc, rfl, q1, ek, nd, rr, b1⟩ := r1.dct_inv k.zh k.lh s1
    obtain ⟨v, h1, x1, x2, x3⟩ := getK_some ek rr e
    exact .inr (.inl ⟨a, v, rfl, .inl ⟨vs, key, q1, ev, x1.symm⟩, hq v h1 (x3.trans b1) x2⟩)
  · obtain ⟨_, e1, e⟩ := Option.bind_eq_some_iff.mp e
    obtain ⟨c0, e2, rfl⟩ := Option.map_eq_some_iff.mp e
    cases r1; cases r2
    exact .inr (.inr ⟨_, _, c0, rfl, rfl, by rw [← sz_eq]; exact of_decide_eq_true (opt_some e1).1, e2, hq _ emp (.emp _) .str⟩)
  · cases e
theorem plainIx_of {b : Expr} (h : ∀ o i, subscripted b false o i = operate [o, i] (getItem o i)) : PlainIx b := h
theorem se_idx {e a b : Expr} {ia ib : IE} {ρ : Nat → Fn} {pos : Pos} (c : Ctx X T) (hs : PlainIx b) (ha : SE X T E a (ev ρ ia)) (hb : SE X T E b (ev ρ ib)) : SE X T E (.Subscript a b pos) (ev ρ (.idx ia ib)) := by
  obtain ⟨ta, pa, ha⟩ := ha
  obtain ⟨tb, pb, hb⟩ := hb
  obtain ⟨o1, o2⟩ := op2_idx c
  refine ⟨_, pe_ix o1 pa pb hs, fun ro env σ s L Q k rr re w => ?_⟩
  rw [ev] at w
  refine ha ro env σ s L _ k rr re (WantG.bind w (Post.refl k) fun x env1 v1 s1 t1 p1 e1 r1 w1 => ?_)
  obtain ⟨k1, d1⟩ := k.post p1
  refine hb ro env1 σ s1 L _ k1 (rr.up p1.zz) e1 (WantG.bind w1 p1 fun y env2 v2 s2 t2 p2 e2 r2 w2 => ?_)
  obtain ⟨k2, _⟩ := k1.post p2
  obtain ⟨a1, a2, a3, a4⟩ := p1.with p2
  obtain ⟨z, q, w2⟩ := want_opt w2
  exact o2 L s2 t1 t2 x y z v1 v2 Q k2 a1 p2.th (r1.up p2.zz) r2 q fun v h1 sb r3 => w2 v s2 h1 ((p1.both p2).less (sb.trans (.joinl _ _))) e2 r3
theorem cut_reps {ws : List W} {vs : List V} (r : Reps T Z L emp ws vs) (lo hi : Option Int) : Reps T Z L emp (cutW ws lo hi) (cutV vs lo hi) := by
  unfold cutW cutV
  rw [r.length]
  exact (r.drop _).take _
def FO := Env → Env → R (Option Int)
def SO (X : Cx) (T : Tb) (E : XK) (e : Option Expr) (f : Env → Env → R (Option Int)) : Prop := ∃ t, PO X e t ∧ ∀ (ro env : Env) (σ : St) (s : Sx) (L : Hp) (Q : Option Int → Hp → Prop), Hs L s → EnvR T s.Z L emp ro σ → EnvR T s.Z emp s.E env σ →
  WantG (fun _ _ a b => a = b) T σ s (f ro env) Q E → t σ s.H Q
theorem so_none {ρ : Nat → Fn} : SO X T E none (evO ρ none) := ⟨_, po_none, fun ro env σ s L Q k rr re w => by
  rw [evO] at w
  exact w _ s emp (Post.refl k) re rfl⟩
theorem so_some {a : Expr} {ia : IE} {ρ : Nat → Fn} (ha : SE X T E a (ev ρ ia)) : SO X T E (some a) (evO ρ (some ia)) := by
  obtain ⟨ta, pa, ha⟩ := ha
  refine ⟨_, po_some pa, fun ro env σ s L Q k rr re w => ?_⟩
  rw [evO] at w
  refine ha ro env σ s L _ k rr re (WantG.bind w (Post.refl k) fun x env1 v1 s1 t1 p1 e1 r1 w1 => ?_)
  split at w1
  · cases r1
    exact ⟨_, rfl, w1 _ s1 emp p1.bare e1 rfl⟩
  · exact w1.elim
def rSlAll (K : PySem.W.Frag) : V → Option Int → Option Int → Hp → VK → Prop := fun x lo hi H Q => rSlL K x lo hi H Q ∨ rSlA K x lo hi H Q ∨ rSlS x lo hi H Q
theorem cut_all {ws : List W} {lo hi : Option Int} (h : HT.sIx ws.length 0 lo = 0 ∧ HT.sIx ws.length ws.length hi = ws.length) : cutW ws lo hi = ws := by
  unfold cutW
  rw [h.1, h.2]
  simp
theorem se_slc {a : Expr} {lo hi : Option Expr} {ia : IE} {il ih : Option IE} {ρ : Nat → Fn} {p2 pos : Pos} (c : Ctx X T) (ha : SE X T E a (ev ρ ia)) (hl : SO X T E lo (evO ρ il)) (hh : SO X T E hi (evO ρ ih)) :
    SE X T E (.Subscript a (.Slice lo hi none p2) pos) (ev ρ (.slc ia il ih)) := by
  obtain ⟨ta, pa, ha⟩ := ha
  obtain ⟨tl, pl, hl⟩ := hl
  obtain ⟨th, ph, hh⟩ := hh
  refine ⟨_, pe_slice (by rw [← c.kk]; exact sl_list.or (sl_tupA.or sl_str) : SlR X (rSlAll T.K)) pa pl ph, fun ro env σ s L Q k rr re w => ?_⟩
  rw [ev] at w
  refine ha ro env σ s L _ k rr re (WantG.bind w (Post.refl k) fun x env1 v1 s1 t1 p1 e1 r1 w1 => ?_)
  obtain ⟨k1, d1⟩ := k.post p1
  refine hl ro env1 σ s1 L _ k1 (rr.up p1.zz) e1 (WantG.bind w1 p1 fun l env2 l' s2 t2 p2 e2 r2 w2 => ?_)
  obtain ⟨k2, _⟩ := k1.post p2
  have p12 := p1.trans p2
  refine hh ro env2 σ s2 L _ k2 (rr.up p12.zz) e2 (WantG.bind w2 p12 fun h env3 h' s3 t3 p3 e3 r3 w3 => ?_)
  obtain ⟨k3, _⟩ := k2.post p3
  subst r2 r3
  obtain ⟨z, q, w3⟩ := want_opt w3
  obtain ⟨a1, a2, a3, a4⟩ := p1.with (p2.trans p3)
  have r1' := r1.up (p2.zz.trans p3.zz)
  unfold slcF at q
  split at q
  · obtain ⟨e4, rfl⟩ := opt_some q
    obtain ⟨ad, vs, hc, rfl, q1, rr1, b1, _⟩ := r1'.lst_inv k3.zh k3.lh a1
    refine .inl ⟨ad, vs, rfl, .inl q1, fun p hp => ?_⟩
    refine new_list (w := .non) k3 (cut_reps (rr1.pure (by simpa using e4) L) l h) (fun v s' t pp ee rq => w3 v s' t ((p12.trans p3).trans pp) (by rw [ee]; exact e3.up pp.zz) rq) hp
  · obtain ⟨e4, rfl⟩ := opt_some q
    obtain ⟨ad, vs, rfl, q1, rr1, zz⟩ := r1'.tup_inv k3.zh
    have rp := rr1.pure (by simpa using e4) L
    refine .inr (.inl ⟨ad, vs, rfl, q1, fun hw => ?_, fun _ p hp => ?_⟩)
    · rw [← rr1.length] at hw
      rw [cut_all hw] at w3
      exact w3 _ s3 emp (p12.trans p3).bare e3 (.tup zz rp)
    · exact new_tup k3 (cut_reps rp l h) (fun v s' t pp ee rq => w3 v s' t ((p12.trans p3).trans pp) (by rw [ee]; exact e3.up pp.zz) rq) hp
  · obtain ⟨e4, rfl⟩ := opt_some q
    cases r1'
    exact .inr (.inr ⟨_, rfl, by rw [← sz_eq]; exact of_decide_eq_true e4, w3 _ s3 emp (p12.trans p3).bare e3 .str⟩)
  · cases q
/-! ## tuples and lists written down -/
theorem se_tup {es : List Expr} {is : List IE} {ρ : Nat → Fn} {x1} {pos : Pos} (h : SA X T E es (evs ρ is)) : SE X T E (.Tuple es x1 pos) (ev ρ (.tup is)) := by
  obtain ⟨t, pe, h⟩ := h
  refine ⟨_, pe_tup pe, fun ro env σ s L Q k rr re w => ?_⟩
  rw [ev] at w
  refine h ro env σ s L _ k rr re (WantG.bind w (Post.refl k) fun ws env1 vs s1 t1 p1 e1 r1 w1 => ?_)
  obtain ⟨k1, d1⟩ := k.post p1
  split at w1
  · rename_i hz
    refine ⟨by rw [← r1.length, ← sz_eq]; exact hz, fun p hp => ?_⟩
    have pn := Post.newZ k1 hp (o := .tup vs)
    have pb := (p1.both pn).less (.joinl t1 emp)
    exact w1 (.ref p) _ t1 pb (e1.up pn.zz) (.tup (SqT.of upd_same) (r1.up pn.zz))
  · exact w1.elim
theorem se_lst {es : List Expr} {is : List IE} {ρ : Nat → Fn} {pos : Pos} (h : SA X T E es (evs ρ is)) : SE X T E (.List es pos) (ev ρ (.lst is)) := by
  obtain ⟨t, pe, h⟩ := h
  refine ⟨_, pe_lst pe, fun ro env σ s L Q k rr re w => ?_⟩
  rw [ev] at w
  refine h ro env σ s L _ k rr re (WantG.bind w (Post.refl k) fun ws env1 vs s1 t1 p1 e1 r1 w1 => ?_)
  obtain ⟨k1, d1⟩ := k.post p1
  split at w1
  · rename_i hz
    refine ⟨by rw [← r1.length, ← sz_eq]; exact hz, fun p hp => ?_⟩
    have pn := Post.newT k1 hp (o := .lst vs)
    have tn : t1 p = none := p1.th.none hp
    have dj : Dj t1 (one p (.lst vs)) := (Dj.one tn).symm
    exact w1 (.ref p) _ _ (p1.both pn) (e1.up pn.zz) (.lst (m := .own) (Sub.joinr dj _ _ one_at) ⟨.joinl _ _, fun z => absurd rfl z⟩ tn (r1.up pn.zz))
  · exact w1.elim
/-! ## fields -/
theorem lookup_rep {nm : Nat → Str} (inj : ∀ i j : Nat, nm i = nm j → i = j) : ∀ {g : Hp} {fs : List (Nat × W)} {vs : List (Str × V)} {f : Nat} {w : W}, (fs.map (·.1)).map nm = vs.map (·.1) → Reps T Z L g (fs.map (·.2)) (vs.map (·.2)) → fs.lookup f = some w →
    ∃ v h1, vs.lookup (nm f) = some v ∧ Rep T Z L h1 w v ∧ Sub h1 g
  | _, [], _, _, _, _, _, e => by simp at e
  | _, (i, x) :: fs, [], _, _, e, _, _ => by simp at e
  | g, (i, x) :: fs, (n, y) :: vs, f, w, e, r, l => by
    simp only [List.map_cons, List.cons.injEq] at e r
    cases r with
    | cons r1 r2 a b d =>
      by_cases hf : f = i
      · subst hf
        simp only [List.lookup_cons, beq_self_eq_true] at l
        cases l
        exact ⟨y, _, by rw [← e.1]; simp [List.lookup_cons], r1, a⟩
      · have hf' : (f == i) = false := by simpa using hf
        simp only [List.lookup_cons, hf'] at l
        obtain ⟨v, h1, x1, x2, x3⟩ := lookup_rep inj e.2 r2 l
        refine ⟨v, h1, ?_, x2, x3.trans b⟩
        have : (nm f == n) = false := by
          rw [← e.1]
          simpa using fun z => hf (inj _ _ z)
        rw [List.lookup_cons, this]; exact x1
end
end VL
set_option Elab.async false
set_option linter.all false
set_option maxRecDepth 100000
set_option maxHeartbeats 1000000
namespace VL
open PySem L2
section
variable {X : Cx} {T : Tb} {E : XK} {Z L h : Hp} {s : Sx} {ρ : Nat → Fn} {e a b : Expr} {pos : Pos}
theorem se_fld {f : Nat} {ia : IE} (c : Ctx X T) (hf : f < T.nF) (hb : attributeBase a (T.nm f) X.env (eval a X.env) = eval a X.env) (ha : SE X T E a (ev ρ ia)) : SE X T E (.Attribute a (T.nm f) pos) (ev ρ (.fld ia f)) := by
  obtain ⟨ta, pa, ha⟩ := ha
  refine ⟨_, pe_fld pa hb, fun ro env σ s L Q k rr re w => ?_⟩
  rw [ev] at w
  refine ha ro env σ s L _ k rr re (WantG.bind w (Post.refl k) fun x env1 v1 s1 t1 p1 e1 r1 w1 => ?_)
  obtain ⟨k1, d1⟩ := k.post p1
  obtain ⟨z, q, w1'⟩ := want_opt w1
  unfold fldF at q
  split at q
  · cases r1 with
    | ins q1 q2 kd n1 n2 ek rk =>
      rename_i m c' fs hc a' dx vs
      obtain ⟨v, h1, x1, x2, x3⟩ := lookup_rep T.inj ek rk q
      obtain ⟨f1, f2⟩ := c.fld c' f hf
      have at1 : s1.H a' = some (.ins (T.cl c') dx vs) := by
        cases m with
        | own => exact p1.th _ _ q1
        | frz => exact p1.zh _ _ q1
        | lnt => exact k1.lh _ _ q1
      exact ⟨a', T.cl c', dx, vs, v, rfl, at1, f1, f2, x1, w1' v s1 h1 (p1.less (x3.trans kd.sub)) e1 x2⟩
  · cases q
/-! ## signs and truth values -/
theorem se_neg {ia : IE} (ha : SE X T E a (ev ρ ia)) : SE X T E (.UnaryOp .USub a pos) (ev ρ (.neg ia)) := by
  obtain ⟨ta, pa, ha⟩ := ha
  refine ⟨_, pe_un un_neg pa, fun ro env σ s L Q k rr re w => ?_⟩
  rw [ev] at w
  refine ha ro env σ s L _ k rr re (WantG.bind w (Post.refl k) fun x env1 v1 s1 t1 p1 e1 r1 w1 => ?_)
  split at w1
  · cases r1
    exact ⟨_, rfl, w1 _ s1 emp p1.bare e1 .int⟩
  · exact w1.elim
theorem se_dnot {ia : IE} (ha : SE X T E a (ev ρ ia)) : SE X T E (.UnaryOp .Not a pos) (ev ρ (.dnot ia)) := by
  obtain ⟨ta, pa, ha⟩ := ha
  refine ⟨_, pe_not pa, fun ro env σ s L Q k rr re w => ?_⟩
  rw [ev] at w
  refine ha ro env σ s L _ k rr re (WantG.bind w (Post.refl k) fun x env1 v1 s1 t1 p1 e1 r1 w1 => ?_)
  split at w1
  · cases r1
    exact ⟨_, rfl, w1 _ s1 emp p1.bare e1 .bl⟩
  · exact w1.elim
theorem se_and1 {ia : IE} (ha : SE X T E a (ev ρ ia)) : SE X T E (.BoolOp .And [a] pos) (evAnd ρ [ia]) := by
  obtain ⟨ta, pa, ha⟩ := ha
  exact ⟨ta, pe_one pa, fun ro env σ s L Q k rr re w => ha ro env σ s L Q k rr re (by rw [evAnd] at w; exact w)⟩
theorem se_or1 {ia : IE} (ha : SE X T E a (ev ρ ia)) : SE X T E (.BoolOp .Or [a] pos) (evOr ρ [ia]) := by
  obtain ⟨ta, pa, ha⟩ := ha
  exact ⟨ta, pe_one pa, fun ro env σ s L Q k rr re w => ha ro env σ s L Q k rr re (by rw [evOr] at w; exact w)⟩
theorem se_and {ia ib : IE} {is : List IE} {es : List Expr} (ha : SE X T E a (ev ρ ia)) (hb : SE X T E (.BoolOp .And (b :: es) pos) (evAnd ρ (ib :: is))) : SE X T E (.BoolOp .And (a :: b :: es) pos) (evAnd ρ (ia :: ib :: is)) := by
  obtain ⟨ta, pa, ha⟩ := ha
  obtain ⟨tb, pb, hb⟩ := hb
  refine ⟨_, pe_and pa pb, fun ro env σ s L Q k rr re w => ?_⟩
  rw [evAnd] at w
  · refine ha ro env σ s L _ k rr re (WantG.bind w (Post.refl k) fun x env1 v1 s1 t1 p1 e1 r1 w1 => ?_)
    obtain ⟨k1, d1⟩ := k.post p1
    split at w1
    · cases r1
      refine ⟨_, rfl, ?_⟩
      rw [if_pos rfl]
      exact hb ro env1 σ s1 L _ k1 (rr.up p1.zz) e1 (w1.later p1)
    · cases r1
      refine ⟨_, rfl, ?_⟩
      rw [if_neg Bool.false_ne_true]
      exact w1 _ s1 emp p1.bare e1 .bl
    · exact w1.elim
  · intro z; cases z
theorem se_or {ia ib : IE} {is : List IE} {es : List Expr} (ha : SE X T E a (ev ρ ia)) (hb : SE X T E (.BoolOp .Or (b :: es) pos) (evOr ρ (ib :: is))) : SE X T E (.BoolOp .Or (a :: b :: es) pos) (evOr ρ (ia :: ib :: is)) := by
  obtain ⟨ta, pa, ha⟩ := ha
  obtain ⟨tb, pb, hb⟩ := hb
  refine ⟨_, pe_or pa pb, fun ro env σ s L Q k rr re w => ?_⟩
  rw [evOr] at w
  · refine ha ro env σ s L _ k rr re (WantG.bind w (Post.refl k) fun x env1 v1 s1 t1 p1 e1 r1 w1 => ?_)
    obtain ⟨k1, d1⟩ := k.post p1
    split at w1
    · cases r1
      refine ⟨_, rfl, ?_⟩
      rw [if_pos rfl]
      exact w1 _ s1 emp p1.bare e1 .bl
    · cases r1
      refine ⟨_, rfl, ?_⟩
      rw [if_neg Bool.false_ne_true]
      exact hb ro env1 σ s1 L _ k1 (rr.up p1.zz) e1 (w1.later p1)
    · exact w1.elim
  · intro z; cases z
theorem se_chain {d : Expr} {o p : CmpO} {ia ib ic : IE} (c : Ctx X T) (hm : lastMarks [o.op, p.op] [b, d] = false) (ha : SE X T E a (ev ρ ia)) (hb : SE X T E b (ev ρ ib)) (hd : SE X T E d (ev ρ ic)) : SE X T E (.Compare a [o.op, p.op] [b, d] pos) (ev ρ (.chain o p ia ib ic)) := by
  obtain ⟨ta, pa, ha⟩ := ha
  obtain ⟨tb, pb, hb⟩ := hb
  obtain ⟨td, pd, hd⟩ := hd
  refine ⟨_, pe_chain (op_cmp c o) (op_cmp c p) pa pb pd hm, fun ro env σ s L Q k rr re w => ?_⟩
  rw [ev] at w
  refine ha ro env σ s L _ k rr re (WantG.bind w (Post.refl k) fun x env1 v1 s1 t1 p1 e1 r1 w1 => ?_)
  obtain ⟨k1, d1⟩ := k.post p1
  refine hb ro env1 σ s1 L _ k1 (rr.up p1.zz) e1 (WantG.bind w1 p1 fun y env2 v2 s2 t2 p2 e2 r2 w2 => ?_)
  obtain ⟨k2, _⟩ := k1.post p2
  obtain ⟨a1, a2, a3, a4⟩ := p1.with p2
  have p12 := p1.trans p2
  unfold bindE at w2
  split at w2
  · rename_i kk q
    dsimp only at w2
    refine opb_cmp o L s2 t1 t2 x y kk v1 v2 _ k2 a1 p2.th (r1.up p2.zz) r2 q ⟨kk, rfl, ?_⟩
    split
    · rename_i hk
      rw [if_pos hk] at w2
      refine hd ro env2 σ s2 L _ k2 (rr.up p12.zz) e2 (WantG.bind w2 p12 fun z env3 v3 s3 t3 p3 e3 r3 w3 => ?_)
      obtain ⟨k3, _⟩ := k2.post p3
      obtain ⟨b1, b2, b3, b4⟩ := p2.with p3
      obtain ⟨u, q3, w3⟩ := want_opt w3
      exact (opb_cmp p).op2 L s3 t2 t3 y z u v2 v3 Q k3 b1 p3.th (r2.up p3.zz) r3 q3 fun v s4 t4 p4 e4 r4 => w3 v s4 t4 ((p12.trans p3).trans p4) (by rw [e4]; exact e3.up p4.zz) r4
    · rename_i hk
      rw [if_neg hk] at w2
      exact w2 _ s2 emp p12.bare e2 .bl
  · exact w2.elim
/-! ## tests -/
theorem st_ite {d : Expr} {ia ib : IE} {ic : IT} (hc : ST X T E d (evT ρ ic)) (ha : SE X T E a (ev ρ ia)) (hb : SE X T E b (ev ρ ib)) : SE X T E (.IfExp d a b pos) (ev ρ (.ite ic ia ib)) := by
  obtain ⟨tc, pc, hc⟩ := hc
  obtain ⟨ta, pa, ha⟩ := ha
  obtain ⟨tb, pb, hb⟩ := hb
  refine ⟨_, pe_ifExp pc pa pb, fun ro env σ s L Q k rr re w => ?_⟩
  rw [ev] at w
  refine hc ro env σ s L _ k rr re (WantG.bind w (Post.refl k) fun x env1 v1 s1 t1 p1 e1 r1 w1 => ?_)
  obtain ⟨k1, d1⟩ := k.post p1
  subst r1
  split
  · rename_i hk
    rw [if_pos hk] at w1
    exact ha ro env1 σ s1 L _ k1 (rr.up p1.zz) e1 (w1.later p1)
  · rename_i hk
    rw [if_neg hk] at w1
    exact hb ro env1 σ s1 L _ k1 (rr.up p1.zz) e1 (w1.later p1)
theorem st_not {ia : IT} (ha : ST X T E a (evT ρ ia)) : ST X T E (.UnaryOp .Not a pos) (evT ρ (.dnot ia)) := by
  obtain ⟨ta, pa, ha⟩ := ha
  refine ⟨_, pt_not pa, fun ro env σ s L Q k rr re w => ?_⟩
  rw [evT] at w
  refine ha ro env σ s L _ k rr re (WantG.bind w (Post.refl k) fun x env1 v1 s1 t1 p1 e1 r1 w1 => ?_)
  subst r1
  exact w1 _ s1 emp p1.bare e1 rfl
/-- parts of an and, an or, within a test -/
def SW (X : Cx) (T : Tb) (E : XK) (e : Expr) (f : Env → Env → R Bool) : Prop := ∃ t, PW X e t ∧ ∀ (ro env : Env) (σ : St) (s : Sx) (L : Hp) (Q : Bool → Hp → Prop), Hs L s → EnvR T s.Z L emp ro σ → EnvR T s.Z emp s.E env σ →
  WantG (fun _ _ a b => a = b) T σ s (f ro env) Q E → t σ s.H Q
theorem SW.st {f : Env → Env → R Bool} (h : SW X T E e f) : ST X T E e f := by
  obtain ⟨t, p, h⟩ := h
  exact ⟨t, p.pt, h⟩
theorem want_true {σ : St} {s : Sx} {r : R Bool} {Q : Bool → Hp → Prop} (w : WantG (fun _ _ a b => a = b) T σ s (r.bind fun k env1 => if k then .ok true env1 else .ok false env1) Q E) : WantG (fun _ _ a b => a = b) T σ s r Q E := by
  cases r with
  | ok k env => cases k <;> exact w
  | ex c x env => exact w
  | bad => exact w
theorem want_bool {σ : St} {s : Sx} {r : R Bool} {Q : Bool → Hp → Prop} (w : WantG (fun _ _ a b => a = b) T σ s (r.bind fun k env1 => if k then .ok true env1 else (.ok false env1)) Q E) : WantG (fun _ _ a b => a = b) T σ s r Q E := want_true w
theorem sw_and1 {ia : IT} (ha : ST X T E a (evT ρ ia)) : SW X T E (.BoolOp .And [a] pos) (evTand ρ [ia]) := by
  obtain ⟨ta, pa, ha⟩ := ha
  exact ⟨ta, pw_and1 pa, fun ro env σ s L Q k rr re w => ha ro env σ s L Q k rr re (want_true (by rw [evTand] at w; simp only [evTand] at w; exact w))⟩
theorem sw_or1 {ia : IT} (ha : ST X T E a (evT ρ ia)) : SW X T E (.BoolOp .Or [a] pos) (evTor ρ [ia]) := by
  obtain ⟨ta, pa, ha⟩ := ha
  exact ⟨ta, pw_or1 pa, fun ro env σ s L Q k rr re w => ha ro env σ s L Q k rr re (want_true (by rw [evTor] at w; simp only [evTor] at w; exact w))⟩
theorem sw_and {ia : IT} {is : List IT} {es : List Expr} (ha : ST X T E a (evT ρ ia)) (hb : SW X T E (.BoolOp .And (b :: es) pos) (evTand ρ is)) : SW X T E (.BoolOp .And (a :: b :: es) pos) (evTand ρ (ia :: is)) := by
  obtain ⟨ta, pa, ha⟩ := ha
  obtain ⟨tb, pb, hb⟩ := hb
  refine ⟨_, pw_and pa pb, fun ro env σ s L Q k rr re w => ?_⟩
  rw [evTand] at w
  refine ha ro env σ s L _ k rr re (WantG.bind w (Post.refl k) fun x env1 v1 s1 t1 p1 e1 r1 w1 => ?_)
  obtain ⟨k1, d1⟩ := k.post p1
  subst r1
  split
  · rename_i hk
    rw [if_pos hk] at w1
    exact hb ro env1 σ s1 L _ k1 (rr.up p1.zz) e1 (w1.later p1)
  · rename_i hk
    rw [if_neg hk] at w1
    exact w1 _ s1 emp p1.bare e1 rfl
theorem sw_or {ia : IT} {is : List IT} {es : List Expr} (ha : ST X T E a (evT ρ ia)) (hb : SW X T E (.BoolOp .Or (b :: es) pos) (evTor ρ is)) : SW X T E (.BoolOp .Or (a :: b :: es) pos) (evTor ρ (ia :: is)) := by
  obtain ⟨ta, pa, ha⟩ := ha
  obtain ⟨tb, pb, hb⟩ := hb
  refine ⟨_, pw_or pa pb, fun ro env σ s L Q k rr re w => ?_⟩
  rw [evTor] at w
  refine ha ro env σ s L _ k rr re (WantG.bind w (Post.refl k) fun x env1 v1 s1 t1 p1 e1 r1 w1 => ?_)
  obtain ⟨k1, d1⟩ := k.post p1
  subst r1
  split
  · rename_i hk
    rw [if_pos hk] at w1
    exact w1 _ s1 emp p1.bare e1 rfl
  · rename_i hk
    rw [if_neg hk] at w1
    exact hb ro env1 σ s1 L _ k1 (rr.up p1.zz) e1 (w1.later p1)
theorem truth_ok {g : Hp} {w : W} {v : V} {H : Hp} {kk : Bool} (c : Ctx X T) (r : Rep T Z L g w v) (z : Sub Z H) (l : Sub L H) (gg : Sub g H) (e : w.truth = some kk) : TruV X.K v H kk := by
  cases r with
  | non => cases e; rfl
  | bl => cases e; rfl
  | int => cases e; rfl
  | str =>
    simp only [W.truth] at e
    split at e
    · cases e
      exact ⟨by rw [← sz_eq]; assumption, rfl⟩
    · cases e
  | tup q r =>
    cases e
    rw [c.kk]
    refine .inr (.inl ⟨_, sqT_sub z q, ?_⟩)
    cases r <;> rfl
  | lst q k n r =>
    rename_i hc m ws a vs
    cases e
    rw [c.kk]
    refine .inl ⟨vs, .inl ?_, ?_⟩
    · cases m with
      | own => exact Rd.of (gg _ _ q)
      | frz => exact rd_sub z q
      | lnt => exact Rd.of (l _ _ q)
    · cases r <;> rfl
  | dct => cases e
  | ins => cases e
theorem st_val {ia : IE} (c : Ctx X T) (he : ∀ whole, isTrue a X.env whole = (do let v ← whole; standAt a.pos; holding [v] (truthy v))) (ha : SE X T E a (ev ρ ia)) : ST X T E a (evT ρ (.val ia)) := by
  obtain ⟨ta, pa, ha⟩ := ha
  refine ⟨_, pt_truth pa he, fun ro env σ s L Q k rr re w => ?_⟩
  rw [evT] at w
  refine ha ro env σ s L _ k rr re (WantG.bind w (Post.refl k) fun x env1 v1 s1 t1 p1 e1 r1 w1 => ?_)
  obtain ⟨k1, d1⟩ := k.post p1
  cases q : x.truth with
  | none => rw [q] at w1; exact w1.elim
  | some kk =>
    rw [q] at w1
    exact ⟨kk, truth_ok c r1 k1.zh k1.lh p1.th q, w1 _ s1 emp p1.bare e1 rfl⟩
theorem st_cmp {ia ib : IE} {o : CmpO} (c : Ctx X T) (hm : behindInMarks o.op b = false) (ha : SE X T E a (ev ρ ia)) (hb : SE X T E b (ev ρ ib)) : ST X T E (.Compare a [o.op] [b] pos) (evT ρ (.val (.cmp o ia ib))) := by
  obtain ⟨ta, pa, ha⟩ := ha
  obtain ⟨tb, pb, hb⟩ := hb
  refine ⟨_, pt_cmpR (op_cmp c o) pa pb hm, fun ro env σ s L Q k rr re w => ?_⟩
  rw [evT, ev] at w
  show ta σ s.H _
  have w' : WantG (fun _ _ a b => a = b) T σ s ((ev ρ ia ro env).bind fun x env1 => ((ev ρ ib ro env1).bind fun y env2 => R.opt (cmpF o x y) env2)) Q E := by
    cases q1 : ev ρ ia ro env with
    | bad => rw [q1] at w; exact w
    | ex c x env1 => rw [q1] at w; exact w
    | ok x env1 =>
      rw [q1] at w
      simp only [R.bind_ok] at w ⊢
      cases q2 : ev ρ ib ro env1 with
      | bad => rw [q2] at w; exact w
      | ex c x env1 => rw [q2] at w; exact w
      | ok y env2 =>
        rw [q2] at w
        simp only [R.bind_ok] at w ⊢
        cases q3 : cmpF o x y with
        | none => rw [q3] at w; exact w
        | some kk => rw [q3] at w; exact w
  refine ha ro env σ s L _ k rr re (WantG.bind w' (Post.refl k) fun x env1 v1 s1 t1 p1 e1 r1 w1 => ?_)
  obtain ⟨k1, d1⟩ := k.post p1
  refine hb ro env1 σ s1 L _ k1 (rr.up p1.zz) e1 (WantG.bind w1 p1 fun y env2 v2 s2 t2 p2 e2 r2 w2 => ?_)
  obtain ⟨k2, _⟩ := k1.post p2
  obtain ⟨a1, a2, a3, a4⟩ := p1.with p2
  have p12 := p1.trans p2
  cases q : cmpF o x y with
  | none => rw [q] at w2; exact w2.elim
  | some kk =>
    rw [q] at w2
    exact opb_cmp o L s2 t1 t2 x y kk v1 v2 _ k2 a1 p2.th (r1.up p2.zz) r2 q ⟨kk, rfl, w2 _ s2 emp p12.bare e2 rfl⟩
theorem st_chain {d : Expr} {o p : CmpO} {ia ib ic : IE} (c : Ctx X T) (hm : lastMarks [o.op, p.op] [b, d] = false) (ha : SE X T E a (ev ρ ia)) (hb : SE X T E b (ev ρ ib)) (hd : SE X T E d (ev ρ ic)) : ST X T E (.Compare a [o.op, p.op] [b, d] pos) (evT ρ (.val (.chain o p ia ib ic))) := by
  obtain ⟨ta, pa, ha⟩ := ha
  obtain ⟨tb, pb, hb⟩ := hb
  obtain ⟨td, pd, hd⟩ := hd
  refine ⟨_, pt_chain (op_cmp c o) (op_cmp c p) pa pb pd hm, fun ro env σ s L Q k rr re w => ?_⟩
  have w' : WantG (fun _ _ a b => a = b) T σ s ((ev ρ ia ro env).bind fun x env1 => (ev ρ ib ro env1).bind fun y env2 => bindE (cmpF o x y) fun k =>
      if k then (ev ρ ic ro env2).bind fun z env3 => R.opt (cmpF p y z) env3 else .ok false env2) Q E := by
    rw [evT, ev] at w
    cases q1 : ev ρ ia ro env with
    | bad => rw [q1] at w; exact w
    | ex c x env1 => rw [q1] at w; exact w
    | ok x env1 =>
      rw [q1] at w
      simp only [R.bind_ok] at w ⊢
      cases q2 : ev ρ ib ro env1 with
      | bad => rw [q2] at w; exact w
      | ex c x env1 => rw [q2] at w; exact w
      | ok y env2 =>
        rw [q2] at w
        simp only [R.bind_ok] at w ⊢
        cases q3 : cmpF o x y with
        | none => rw [q3] at w; exact w
        | some kk =>
          rw [q3] at w
          simp only [bindE] at w ⊢
          cases kk with
          | false => exact w
          | true =>
            simp only [if_true] at w ⊢
            cases q4 : ev ρ ic ro env2 with
            | bad => rw [q4] at w; exact w
            | ex c x env1 => rw [q4] at w; exact w
            | ok z env3 =>
              rw [q4] at w
              simp only [R.bind_ok] at w ⊢
              cases q5 : cmpF p y z with
              | none => rw [q5] at w; exact w
              | some kk => rw [q5] at w; exact w
  refine ha ro env σ s L _ k rr re (WantG.bind w' (Post.refl k) fun x env1 v1 s1 t1 p1 e1 r1 w1 => ?_)
  obtain ⟨k1, d1⟩ := k.post p1
  refine hb ro env1 σ s1 L _ k1 (rr.up p1.zz) e1 (WantG.bind w1 p1 fun y env2 v2 s2 t2 p2 e2 r2 w2 => ?_)
  obtain ⟨k2, _⟩ := k1.post p2
  obtain ⟨a1, a2, a3, a4⟩ := p1.with p2
  have p12 := p1.trans p2
  unfold bindE at w2
  split at w2
  · rename_i kk q
    dsimp only at w2
    refine opb_cmp o L s2 t1 t2 x y kk v1 v2 _ k2 a1 p2.th (r1.up p2.zz) r2 q ⟨kk, rfl, ?_⟩
    split
    · rename_i hk
      rw [if_pos hk] at w2
      refine hd ro env2 σ s2 L _ k2 (rr.up p12.zz) e2 (WantG.bind w2 p12 fun z env3 v3 s3 t3 p3 e3 r3 w3 => ?_)
      obtain ⟨k3, _⟩ := k2.post p3
      obtain ⟨b1, b2, b3, b4⟩ := p2.with p3
      cases q3 : cmpF p y z with
      | none => rw [q3] at w3; exact w3.elim
      | some k4 =>
        rw [q3] at w3
        exact opb_cmp p L s3 t2 t3 y z k4 v2 v3 _ k3 b1 p3.th (r2.up p3.zz) r3 q3 ⟨k4, rfl, w3 _ s3 emp (p12.trans p3).bare e3 rfl⟩
    · rename_i hk
      rw [if_neg hk] at w2
      exact ⟨false, rfl, w2 _ s2 emp p12.bare e2 rfl⟩
  · exact w2.elim
theorem st_lend {xs : List Nat} {i : IT} (h : ST X T E e (evT ρ i)) : ST X T E e (evT ρ (.lend xs i)) := by
  obtain ⟨t, pe, h⟩ := h
  refine ⟨t, pe, fun ro env σ s L Q k rr re w => ?_⟩
  rw [evT] at w
  obtain ⟨l, E', a1, a2, a3, a4, a5, a6, a7⟩ := lendE_ok xs k rr re (by rw [rr.len, re.len])
  rcases q : lendE env ro xs with ⟨env1, ro1⟩
  rw [q] at w a4 a5
  refine h ro1 env1 σ ⟨s.Z, E', s.H⟩ (join L l) Q (k.lend a1 a2 a3) a4 a5 ?_
  dsimp only at w
  cases q2 : evT ρ i ro1 env1 with
  | bad => rw [q2] at w; exact w
  | ok x env2 =>
    rw [q2] at w
    intro v s' t p e r
    exact w v ⟨s'.Z, join l s'.E, s'.H⟩ t (p.unlend k.eh k.ze a1 a2 a3) (a7 _ _ _ _ (fun _ _ => rfl) p.zz (Dj.fr k.eh k.ze a1 a3 p) e) r
  | ex c x env2 =>
    rw [q2] at w
    intro cls d s' p e r
    exact w cls d ⟨s'.Z, join l s'.E, s'.H⟩ (p.unlend k.eh k.ze a1 a2 a3) (a7 _ _ _ _ (fun _ _ => rfl) p.zz (Dj.fr k.eh k.ze a1 a3 p) e) r
end
end VL
set_option Elab.async false
set_option linter.all false
set_option maxRecDepth 100000
set_option maxHeartbeats 1000000
namespace VL
open PySem L2
open PyProof.Rows (seqObj sortedHeap kind_sorted plain_sorted entry_sorted args_sorted1 slot_list_sort entry_list_sort args_list_sort IsTup)
section
variable {X : Cx}
def rSortedT (K : PySem.W.Frag) : List V → Hp → VK → Prop := fun vs H Q => ∃ (a : Addr) (ns : List Int), vs = [V.ref a] ∧ SqT K H a (ns.map V.int) ∧
  ∀ (ns' : List Int) (p : Addr), ns'.Perm ns → ns'.Pairwise (· ≤ ·) → H p = none → Q (.ref p) (upd H p (.lst (ns'.map V.int)))
theorem cr_sortedT : CallR X (.builtin "sorted") (rSortedT X.K) := by
  intro pins st σ H vs us Q I r hw
  obtain ⟨a, ns, rfl, hs, q⟩ := hw
  obtain ⟨its, rv, ⟨o, ho, hc, n, hd⟩, hz⟩ := I.tuple hs
  rw [Vals.ref1 r]
  have hi := rv.ints
  have hz' : its.length ≤ sizeLine := by rw [← rv.length]; exact hz
  refine Calls.call_function_entry kind_sorted plain_sorted entry_sorted (args_sorted1 _) ?_
  unfold Builtin.«sorted»
  refine wpAny_bind (m := checkCount "sorted" 1 1 _) (wpAny_pure ?_)
  refine wpAny_bind (wpAny_collect_seq a (T := "tuple") (.inr rfl) ho hc hd (fun h' keep => ?_) (by rw [List.size_toArray]; exact hz'))
  refine wpAny_bind (PySem.wpAny_newList ?_ hz')
  have hoL : (h'.push (seqObj "list" its.toArray 0)).get? h'.objs.size = some (seqObj "list" its.toArray 0) := Heap.get?_push_size _ rfl
  refine wpAny_bind (wpAny_holding (wpAny_call_entry slot_list_sort ⟨_, hoL, rfl⟩ entry_list_sort (SrtO.list_sort_ord SrtO.swo_int hoL hz' (fun h2 => SrtO.ints_sortable hi h2) fun out h1 h2 => ⟨_, rfl, ?_⟩) (args_list_sort _)))
  obtain ⟨k1, k2, k3⟩ := SrtO.ints_out hi h1 h2
  have I1 : Inv X pins σ H { st with heap := h' } := I.kept (t' := st.toks) keep
  obtain ⟨ep, hat⟩ := PyProof.Rows.sortedHeap_at (vs := its) (out := out.toArray) hoL
  have old : ∀ b ob, h'.get? b = some ob → (sortedHeap (h'.push (seqObj "list" its.toArray 0)) h'.objs.size its out.toArray).get? b = some ob := fun b ob e => by
    have lt := Heap.lt_size e
    rw [PyProof.Rows.sortedHeap_old (Nat.ne_of_lt lt) (by rw [Heap.size_push]; exact Nat.lt_succ_of_lt lt), Heap.get?_push_ne _ _ _ (Nat.ne_of_lt lt)]
    exact e
  have hlen : ((out.map SrtO.iv).map V.int).length ≤ PySem.sizeLine := by
    rw [List.length_map, k2.length_eq]
    rw [List.length_map] at hz
    exact hz
  exact wpAny_pure ⟨_, rfl, .ref _, upd H h'.objs.size (.lst ((out.map SrtO.iv).map V.int)), I1.laid (t' := st.toks) old (Nat.le_refl _) ⟨hlen, out, ep, vals_of_ints k1, hat⟩, rfl, q _ _ k2 k3 (I1.hok.fresh (Nat.le_refl _))⟩
end
end VL
set_option Elab.async false
set_option linter.all false
set_option maxRecDepth 100000
set_option maxHeartbeats 1000000
namespace VL
open PySem L2
/-! ## the least of a list, by a comparison that looks at the heap -/
def Kept (h0 h : Heap) : Prop := ∀ b o, h0.get? b = some o → h.get? b = some o
section
variable {prog : Program} {w : World} {A : Around} {R : Result → Shared → Prop} {I S : Addr} {fp wr : List Addr} {n : Nat} {P : Nat → Value → Prop} {St : Nat → Heap → Prop} {h0 : Heap} {bt : Nat → Nat → Bool}
def LtAtH (prog : Program) (w : World) (A : Around) (h0 : Heap) (P : Nat → Value → Prop) (bt : Nat → Nat → Bool) : Prop :=
  ∀ (i j : Nat) (x y : Value) (st : Shared) (Q : Value → Shared → Prop) (E : Value → Shared → Prop), Kept h0 st.heap → P i x → P j y → Q (.bool (bt i j)) st → wpAny (model prog w) A (richCompare .Lt x y) Q E st
abbrev twoL (x : Value) (c : Nat) : Obj := { cls := .type "list", dict := none, data := .seq #[x, x] c, slots := #[] }
theorem kept_upd {h h' : Heap} (hw : ∀ b o, h0.get? b = some o → b ∉ wr) (k : Kept h0 h) (m : ∀ b o, b ∉ wr → h.get? b = some o → h'.get? b = some o) : Kept h0 h' := fun b o e => m b o (hw b o e) (k b o e)
theorem kept_set {h : Heap} {f : Obj → Obj} (hS : h0.get? S = none) (k : Kept h0 h) : Kept h0 (h.update S f) := fun b o e => (Heap.get?_update_other _ _ (fun z : S = b => by subst z; rw [hS] at e; cases e)).trans (k b o e)
theorem min_turns (W : Walks prog w A.in1 I fp wr n P St) (hw : ∀ b o, h0.get? b = some o → b ∉ wr) (hcmp : LtAtH prog w A.in1 h0 P bt) (hSf : S ∉ fp) (hS0 : h0.get? S = none) :
    ∀ (k j : Nat) (st : Shared) (x : Value) (c : Nat), n - (j + 1) = k → j + 1 ≤ n → St (j + 1) st.heap → Kept h0 st.heap → P (argBest bt j) x → st.heap.get? S = some (twoL x c) →
      (∀ v h' tk, P (argBest bt (n - 1)) v → Kept h0 h' → R (.ok (.ret v)) { st with heap := h', toks := tk }) → codeAny (model prog w) A (.builtin "min.loop" ⟨[.ref I, .none, .ref S], []⟩) R st := by
  have nS : S ∉ wr := fun z => hSf (W.sub _ z)
  have nm : (toString "min" ++ toString ".loop" : String) = "min.loop" := by decide
  intro k
  induction k with
  | zero =>
    intro j st x c ek hj hst kp hx hS fin
    have en : j + 1 = n := by omega
    refine codeAny_builtin F.entry_min_loop ?_
    rw [Around.under_plainId F.plain_min_loop _]
    show wpAny _ A.in1 (seqItems? (.ref S) >>= _) _ _ st
    refine wpAny_bind (wpAny_seqItems hS rfl ?_)
    show wpAny _ A.in1 (tryCatch (pyNext (.ref I)) _ >>= _) _ _ st
    refine wpAny_bind (wpAny_tryCatch (W.done st _ _ (en ▸ hst) fun h1 tk m => ?_))
    have hS1 := m S _ nS hS
    show wpAny _ A.in1 (updateSeq S (fun _ => #[]) >>= _) _ _ _
    exact wpAny_bind (wpAny_updateSeq hS1 rfl (wpAny_bind (wpAny_letGo (wpAny_pure (fin x _ tk (by rw [← en]; exact hx) (kept_set hS0 (kept_upd hw kp m)))))))
  | succ k ih =>
    intro j st x c ek hj hst kp hx hS fin
    have lt : j + 1 < n := by omega
    refine codeAny_builtin F.entry_min_loop ?_
    rw [Around.under_plainId F.plain_min_loop _]
    show wpAny _ A.in1 (seqItems? (.ref S) >>= _) _ _ st
    refine wpAny_bind (wpAny_seqItems hS rfl ?_)
    show wpAny _ A.in1 (tryCatch (pyNext (.ref I)) _ >>= _) _ _ st
    refine wpAny_bind (wpAny_tryCatch (W.item (j + 1) st _ _ lt hst fun y h1 tk hy st1 m => ?_))
    have hS1 := m S _ nS hS
    have kp1 := kept_upd hw kp m
    show wpAny _ A.in1 (tryCatch (holding [y, y] (richCompare .Lt y x >>= _)) _ >>= _) _ _ _
    refine wpAny_bind (wpAny_tryCatch (wpAny_holding (wpAny_bind (hcmp (j + 1) (argBest bt j) y x _ _ _ kp1 hy hx ?_))))
    refine wpAny_bind (wpAny_holding (wpAny_truthy_bool ?_))
    refine wpAny_bind (wpAny_letGo (wpAny_pure ?_))
    cases hb : bt (j + 1) (argBest bt j) with
    | true =>
      simp only [if_true]
      refine wpAny_bind (wpAny_updateSeq hS1 rfl (wpAny_bind (wpAny_letGo ?_)))
      rw [nm]
      refine wpAny_pure ⟨plainId_quiet F.plain_min_loop _, ih (j + 1) _ y _ (by omega) lt (W.frame _ _ _ st1 fun b hbf o e => ?_) (kept_set hS0 kp1) (by simp only [argBest, hb, if_true]; exact hy) (Heap.get?_update_self _ hS1 rfl) fun v h2 tk2 => fin v h2 tk2⟩
      exact (Heap.get?_update_other _ _ (fun z : S = b => hSf (by rw [z]; exact hbf))).trans e
    | false =>
      simp only [Bool.false_eq_true, if_false]
      refine wpAny_bind (wpAny_letGo ?_)
      rw [nm]
      exact wpAny_pure ⟨plainId_quiet F.plain_min_loop _, ih (j + 1) _ x c (by omega) lt st1 kp1 (by simp only [argBest, hb, Bool.false_eq_true, if_false]; exact hx) hS1 fun v h2 tk2 => fin v h2 tk2⟩
theorem min_from (W : Walks prog w A.in1 I fp wr n P St) (hw : ∀ b o, h0.get? b = some o → b ∉ wr) (hcmp : LtAtH prog w A.in1 h0 P bt) (hSf : S ∉ fp) (hS0 : h0.get? S = none) (hn : 0 < n) {st : Shared} {c : Nat} (hst : St 0 st.heap) (kp : Kept h0 st.heap)
    (hS : st.heap.get? S = some { cls := .type "list", dict := none, data := .seq #[] c, slots := #[] }) (fin : ∀ v h' tk, P (argBest bt (n - 1)) v → Kept h0 h' → R (.ok (.ret v)) { st with heap := h', toks := tk }) :
    codeAny (model prog w) A (.builtin "min.loop" ⟨[.ref I, .none, .ref S], []⟩) R st := by
  have nS : S ∉ wr := fun z => hSf (W.sub _ z)
  have nm : (toString "min" ++ toString ".loop" : String) = "min.loop" := by decide
  refine codeAny_builtin F.entry_min_loop ?_
  rw [Around.under_plainId F.plain_min_loop _]
  show wpAny _ A.in1 (seqItems? (.ref S) >>= _) _ _ st
  refine wpAny_bind (wpAny_seqItems hS rfl ?_)
  show wpAny _ A.in1 (tryCatch (pyNext (.ref I)) _ >>= _) _ _ st
  refine wpAny_bind (wpAny_tryCatch (W.item 0 st _ _ hn hst fun y h1 tk hy st1 m => ?_))
  have hS1 := m S _ nS hS
  show wpAny _ A.in1 (updateSeq S (fun _ => #[y, y]) >>= _) _ _ _
  refine wpAny_bind (wpAny_updateSeq hS1 rfl ?_)
  rw [nm]
  refine wpAny_pure ⟨plainId_quiet F.plain_min_loop _, min_turns W hw hcmp hSf hS0 _ 0 _ y _ rfl hn (W.frame _ _ _ st1 fun b hbf o e => ?_) (kept_set hS0 (kept_upd hw kp m)) hy (Heap.get?_update_self _ hS1 rfl) fun v h2 tk2 => fin v h2 tk2⟩
  exact (Heap.get?_update_other _ _ (fun z : S = b => hSf (by rw [z]; exact hbf))).trans e
end
section
variable {prog : Program} {w : World} {A : Around} {E : Value → Shared → Prop} {s : Shared} {bt : Nat → Nat → Bool}
theorem min_list {l : Addr} {items : Array Value} {Q : Value → Shared → Prop} (hh : A.handled = none) (hl : s.heap.IsList l items) (hn : 0 < items.size) (hcmp : LtAtH prog w A.in1 s.heap (fun i v => items[i]? = some v) bt)
    (fin : ∀ v h' tk, items[argBest bt (items.size - 1)]? = some v → Kept s.heap h' → Q v { s with heap := h', toks := tk }) : wpAny (model prog w) A (call (.builtin "min") [.ref l]) Q E s := by
  have nm : (toString "min" ++ toString ".loop" : String) = "min.loop" := by decide
  refine call_function_tree F.kind_min F.plain_min F.entry_min (F.args_min1 _) ?_
  show wpAny _ A.in1 (Builtin.Builtins.bindParams "min" ["key", "default"] 0 ⟨[], []⟩ >>= _) _ _ s
  refine wpAny_bind (wpAny_of_eq (show Builtin.Builtins.bindParams "min" ["key", "default"] 0 ⟨[], []⟩ = pure [none, none] from rfl) ?_)
  refine wpAny_bind (wpAny_pure ?_)
  have hlt : l < s.heap.objs.size := by obtain ⟨_, e, _⟩ := hl; exact Heap.lt_size e
  refine wpAny_bind (wpAny_pyIter_list hl ?_)
  refine wpAny_bind (wpAny_newObj_type ?_)
  have sz : (s.heap.push { cls := .type "list_iterator", data := .fields #[.ref l, .int 0 0] }).objs.size = s.heap.objs.size + 1 := Heap.size_push ..
  have none_of : ∀ b, s.heap.objs.size ≤ b → s.heap.get? b = none := fun b hb => by
    cases e : s.heap.get? b with
    | none => rfl
    | some o => exact absurd (Heap.lt_size e) (Nat.not_lt_of_le hb)
  have hI : (s.heap.push { cls := .type "list_iterator", data := .fields #[.ref l, .int 0 0] }).IsListIter s.heap.objs.size l 0 ∧ (s.heap.push { cls := .type "list_iterator", data := .fields #[.ref l, .int 0 0] }).IsList l items := ⟨⟨_, Heap.get?_push_size _ rfl, rfl, rfl⟩, hl.push _⟩
  have W := Walks.list (prog := prog) (w := w) (A := A.in1) hh s.heap.objs.size l (Nat.ne_of_lt hlt) items
  rw [nm]
  refine wpAny_pure ⟨plainId_quiet F.plain_min_loop _, min_from (h0 := s.heap) W (fun b o e hm => ?_) hcmp (fun hm => ?_) ?_ hn (W.frame _ _ _ hI fun b _ o e => Heap.get?_push_of_some _ e) (fun b o e => Heap.get?_push_of_some _ (Heap.get?_push_of_some _ e)) (Heap.get?_push_size _ rfl) fun v h' tk hv hk => fin v h' tk hv hk⟩
  · have e1 : b = s.heap.objs.size := by simpa using hm
    subst e1
    exact absurd (Heap.lt_size e) (Nat.lt_irrefl _)
  · have hm : (s.heap.push { cls := .type "list_iterator", data := .fields #[.ref l, .int 0 0] }).objs.size ∈ [s.heap.objs.size, l] := hm
    rw [sz] at hm
    rcases List.mem_cons.mp hm with e1 | hm
    · exact absurd e1 (Nat.succ_ne_self _)
    · rcases List.mem_cons.mp hm with e1 | hm
      · exact absurd (e1 ▸ hlt) (Nat.not_lt_of_le (Nat.le_succ _))
      · cases hm
  · show s.heap.get? (s.heap.push { cls := .type "list_iterator", data := .fields #[.ref l, .int 0 0] }).objs.size = none
    rw [sz]
    exact none_of _ (Nat.le_succ _)
end
end VL
set_option Elab.async false
set_option linter.all false
set_option maxRecDepth 100000
set_option maxHeartbeats 1000000
namespace VL
open PySem L2
section
variable {X : Cx} {T : Tb} {E : XK} {Z L h : Hp} {s : Sx} {ρ : Nat → Fn} {e a b : Expr} {pos p : Pos}
/-! ## built-in calls -/
def Blt.name : Blt → Str
  | .len => "len" | .int => "int" | .abs => "abs" | .min => "min" | .max => "max" | .sum => "sum" | .all => "all" | .any => "any" | .sorted => "sorted" | .list => "list" | .tuple => "tuple" | .repr => "repr" | .dict => "dict" | .str => "str"
def Blt.val : Blt → Value
  | .len => .builtin "len" | .int => .type "int" | .abs => .builtin "abs" | .min => .builtin "min" | .max => .builtin "max" | .sum => .builtin "sum" | .all => .builtin "all" | .any => .builtin "any"
  | .sorted => .builtin "sorted" | .list => .type "list" | .tuple => .type "tuple" | .repr => .builtin "repr" | .dict => .type "dict" | .str => .type "str"
def rRepr (K : PySem.W.Frag) : List V → Hp → VK → Prop := fun vs H Q => ∃ v d, vs = [v] ∧ Dp K H v d ∧ d.showable = true ∧ d.hasDict = false ∧ d.depth < 60 ∧ d.shown.length ≤ sizeLine ∧ Q (.str d.shown) H
theorem call_reprD (c : Ctx X T) : CallR X (.builtin "repr") (rRepr X.K) := fun pins st σ H vs us Q I r hw => by
  obtain ⟨v, d, rfl, hd, h1, h2, h3, h4, q⟩ := hw
  obtain ⟨u, rfl, rv⟩ := vals1 r
  obtain ⟨as, rd⟩ := Dp.reads I d v u hd rv
  have un := c.un
  cases hd with
  | non => cases rv; exact PySem.P.repr_of_none ⟨.str _, H, I.tok _, ⟨_, rfl⟩, q⟩
  | bl b => cases rv; exact PySem.P.repr_of_bool ⟨.str _, H, I.tok _, ⟨_, rfl⟩, by cases b <;> exact q⟩
  | int i =>
    obtain ⟨t, rfl⟩ := rv
    exact PySem.P.repr_of_int (by simpa [PyData.showable] using h1) ⟨.str _, H, I.tok _, ⟨_, rfl⟩, q⟩
  | str x =>
    obtain ⟨t, rfl⟩ := rv
    exact PySem.P.repr_of_str ⟨.str _, H, I.tok _, ⟨_, rfl⟩, q⟩ h4
  | lst _ _ =>
    cases rv
    exact PySem.repr_of_reads' rd h1 (fun z => by rw [h2] at z; cases z) c.ga (by omega) (fun _ _ q => q) (fun h' u tk hk => ⟨.str _, H, I.kept hk, ⟨_, rfl⟩, q⟩) h4
  | tup _ _ =>
    cases rv
    exact PySem.repr_of_reads' rd h1 (fun z => by rw [h2] at z; cases z) c.ga (by omega) (fun _ _ q => q) (fun h' u tk hk => ⟨.str _, H, I.kept hk, ⟨_, rfl⟩, q⟩) h4
/-- the least of some pairs -/
def rMinP (K : PySem.W.Frag) : List V → Hp → VK → Prop := fun vs H Q => ∃ (a : Addr) (ys : List V) (ps : List (Int × Int)), vs = [V.ref a] ∧ SqL K H a ys ∧ 0 < ps.length ∧ ys.length = ps.length ∧
  (∀ (i : Nat) y p, ys[i]? = some y → ps[i]? = some p → ∃ t, y = V.ref t ∧ SqT K H t [.int p.1, .int p.2]) ∧ ∀ (i : Nat) y p, ys[i]? = some y → ps[i]? = some p → (∀ q ∈ ps, lessP q p = false) → (∀ j q, j < i → ps[j]? = some q → lessP p q = true) → Q y H
theorem lessP_iff {p q : Int × Int} : lessP p q = true ↔ p.1 < q.1 ∨ (p.1 = q.1 ∧ p.2 < q.2) := by
  unfold lessP; simp
theorem lessP_no {p q : Int × Int} : lessP p q = false ↔ ¬ (p.1 < q.1 ∨ (p.1 = q.1 ∧ p.2 < q.2)) := by
  rw [← lessP_iff]; cases lessP p q <;> simp
theorem argBest_lessP (g : Nat → Int × Int) : ∀ k, argBest (fun i j => lessP (g i) (g j)) k ≤ k ∧ (∀ j, j ≤ k → lessP (g j) (g (argBest (fun i j => lessP (g i) (g j)) k)) = false) ∧
    ∀ j, j < argBest (fun i j => lessP (g i) (g j)) k → lessP (g (argBest (fun i j => lessP (g i) (g j)) k)) (g j) = true := by
  intro k
  induction k with
  | zero =>
    refine ⟨Nat.le_refl _, fun j hj => ?_, fun j hj => absurd hj (by simp [argBest])⟩
    have : j = 0 := by omega
    subst this
    exact lessP_no.mpr (by simp [argBest])
  | succ k ih =>
    obtain ⟨h1, h2, h3⟩ := ih
    generalize hb : argBest (fun i j => lessP (g i) (g j)) k = b at h1 h2 h3
    rw [argBest, hb]
    by_cases c : lessP (g (k + 1)) (g b) = true
    · rw [if_pos c]
      have c' := lessP_iff.mp c
      refine ⟨Nat.le_refl _, fun j hj => ?_, fun j hj => ?_⟩
      · by_cases e : j = k + 1
        · subst e; exact lessP_no.mpr (by omega)
        · have := lessP_no.mp (h2 j (by omega))
          exact lessP_no.mpr (by omega)
      · have := lessP_no.mp (h2 j (by omega))
        exact lessP_iff.mpr (by omega)
    · rw [if_neg c]
      refine ⟨by omega, fun j hj => ?_, h3⟩
      by_cases e : j = k + 1
      · subst e; cases q : lessP (g (k + 1)) (g b) with
        | true => exact absurd q c
        | false => rfl
      · exact h2 j (by omega)
theorem vals_back : ∀ {xs : List V} {us : List Value} {i : Nat} {u : Value}, Vals xs us → us[i]? = some u → ∃ x, xs[i]? = some x ∧ RelV x u
  | _, _, _, _, .nil, e => by simp at e
  | _, _, 0, _, .cons r _, e => by simp at e; subst e; exact ⟨_, rfl, r⟩
  | _, _, i + 1, x, .cons _ t, e => by
    obtain ⟨u, h1, h2⟩ := vals_back (i := i) t (by simpa using e)
    exact ⟨u, by simpa using h1, h2⟩
theorem isTup_kept {h0 h : Heap} {a : Addr} {its : Array Value} (k : Kept h0 h) (t : PyProof.Rows.IsTup h0 a its) : PyProof.Rows.IsTup h a its := by
  obtain ⟨o, e, r⟩ := t
  exact ⟨o, k _ _ e, r⟩
theorem lexLt_two (a b c d : Int) : HT.lexLt [a, b] [c, d] = lessP (a, b) (c, d) := by
  unfold lessP
  simp only [HT.lexLt]
  by_cases h : a = c
  · subst h; by_cases h2 : b = d <;> simp [h2]
  · simp [h]
theorem cr_minP (c : Ctx X T) : CallR X (.builtin "min") (rMinP X.K) := by
  intro pins st σ H vs us Q I r h
  obtain ⟨a, ys, ps, rfl, hs, hne, hlen, hp, q⟩ := h
  obtain ⟨its, rv, hl, _⟩ := I.list hs
  rw [Vals.ref1 r]
  have hlen' : ys.length = its.length := rv.length
  have un := c.un
  have pair : ∀ i x, its[i]? = some x → ∃ t t' : List Value, ∃ ad : Addr, x = Value.ref ad ∧ PyProof.Rows.IntsAre t [(ps.getD i (0, 0)).1, (ps.getD i (0, 0)).2] ∧ PyProof.Rows.IsTup st.heap ad t.toArray := fun i x hx => by
    obtain ⟨y, hy, ry⟩ := vals_back rv hx
    have lt : i < ps.length := by rw [← hlen]; exact (List.getElem?_eq_some_iff.mp hy).1
    obtain ⟨t, rfl, ht⟩ := hp i y ps[i] hy (List.getElem?_eq_getElem lt)
    cases ry
    obtain ⟨js, rj, tj, _⟩ := I.tuple ht
    refine ⟨js, [], t, rfl, ?_, tj⟩
    have := (show Vals ([ps[i].1, ps[i].2].map V.int) js from rj).ints
    rw [List.getD_eq_getElem?_getD, List.getElem?_eq_getElem lt]
    exact this
  refine min_list (bt := fun i j => lessP (ps.getD i (0, 0)) (ps.getD j (0, 0))) (I.ok.hd c.calm) hl.isList (by rw [List.size_toArray]; omega) ?_ fun v h' tk hv hk => ?_
  · intro i j x y st' Q' E' kp hx hy hq
    rw [List.getElem?_toArray] at hx hy
    obtain ⟨t1, _, a1, rfl, i1, k1⟩ := pair i x hx
    obtain ⟨t2, _, a2, rfl, i2, k2⟩ := pair j y hy
    refine HT.lt_tupInts (isTup_kept kp k1) (isTup_kept kp k2) (by simpa using i1) (by simpa using i2) (show X.A.units + 1 < cLine by omega) ?_
    rw [lexLt_two]
    exact hq
  · rw [List.getElem?_toArray, List.size_toArray] at hv
    obtain ⟨y, hy, ry⟩ := vals_back rv hv
    obtain ⟨b1, b2, b3⟩ := argBest_lessP (fun i => ps.getD i (0, 0)) (its.length - 1)
    generalize hb : argBest (fun i j => lessP (ps.getD i (0, 0)) (ps.getD j (0, 0))) (its.length - 1) = b at b1 b2 b3 hv hy
    have lt : b < ps.length := by omega
    have eb : ps.getD b (0, 0) = ps[b] := by rw [List.getD_eq_getElem?_getD, List.getElem?_eq_getElem lt]; rfl
    refine ⟨y, H, I.kept (t' := tk) hk, ry, q b y ps[b] hy (List.getElem?_eq_getElem lt) (fun p hp' => ?_) fun j p hj hp' => ?_⟩
    · obtain ⟨j, hj⟩ := List.mem_iff_getElem?.mp hp'
      have lj := (List.getElem?_eq_some_iff.mp hj).1
      have := b2 j (by omega)
      rw [eb, List.getD_eq_getElem?_getD, hj] at this
      exact this
    · have := b3 j hj
      rw [eb, List.getD_eq_getElem?_getD, hp'] at this
      exact this
theorem leastP_le : ∀ (r : List (Int × Int)) (m : Int × Int), (∀ x ∈ m :: r, lessP x (leastP m r) = false) ∧ leastP m r ∈ m :: r
  | [], m => by
    refine ⟨fun x hx => ?_, by simp [leastP]⟩
    rcases List.mem_cons.mp hx with rfl | hx
    · exact lessP_no.mpr (by simp [leastP])
    · cases hx
  | x :: r, m => by
    by_cases hx : lessP x m = true
    · obtain ⟨a, b⟩ := leastP_le r x
      simp only [leastP, hx, if_true]
      refine ⟨fun y hy => ?_, ?_⟩
      · rcases List.mem_cons.mp hy with rfl | hy
        · have c1 := lessP_no.mp (a x (by simp))
          have c2 := lessP_iff.mp hx
          exact lessP_no.mpr (by omega)
        · exact a _ hy
      · exact List.mem_cons_of_mem _ b
    · obtain ⟨a, b⟩ := leastP_le r m
      rw [leastP, if_neg hx]
      refine ⟨fun y hy => ?_, ?_⟩
      · rcases List.mem_cons.mp hy with rfl | hy
        · exact a y (by simp)
        · rcases List.mem_cons.mp hy with rfl | hy
          · have c1 := lessP_no.mp (a m (by simp))
            have c2 := lessP_no.mp (Bool.eq_false_iff.mpr hx)
            exact lessP_no.mpr (by omega)
          · exact a y (by simp [hy])
      · rcases List.mem_cons.mp b with e | b
        · rw [e]; simp
        · simp [b]
theorem lessP_anti {p q : Int × Int} (a : lessP p q = false) (b : lessP q p = false) : p = q := by
  have a := lessP_no.mp a
  have b := lessP_no.mp b
  exact Prod.ext (by omega) (by omega)
theorem call_lenR : CallR X (.builtin "len") (fun xs H Q => ∃ a kvs, xs = [V.ref a] ∧ Rd H a (.dK kvs) ∧ Q (.int kvs.length) H) := by
  intro pins s σ H xs us Q I r h
  obtain ⟨a, kvs, rfl, ha, q⟩ := h
  obtain ⟨u, rfl, ru⟩ := vals1 r
  cases ru
  exact d_len I ha fun t s' I' => ⟨.int kvs.length, H, I', ⟨t, rfl⟩, q⟩
theorem Reps.kpairs : ∀ {g : Hp} {ws : List W} {vs : List V} {kvs : List (Key × W)}, Reps T Z L g ws vs → VL.kpairs ws = some kvs → hasL Fl.isMut ws = false →
    ∃ (ps : List Addr) (ms : List (Key × V)), vs = ps.map V.ref ∧ Paired (fun p kv => SqT T.K Z p [kV kv.1, kv.2]) ps ms ∧ kvs.map (·.1) = ms.map (·.1) ∧ Reps T Z L emp (kvs.map (·.2)) (ms.map (·.2)) ∧ ms.length = ws.length
  | _, _, _, _, .nil, e, _ => by
    cases (show some [] = some _ from e)
    exact ⟨[], [], rfl, .nil, rfl, .nil, rfl⟩
  | _, _, _, kvs, .cons (w := w) r t a b d, e, hm => by
    unfold VL.kpairs at e
    split at e <;> try (cases e; done)
    all_goals rename_i heq <;> try (cases heq; done)
    cases heq
    obtain ⟨key, hk, e⟩ := Option.bind_eq_some_iff.mp e
    obtain ⟨r0, h0, rfl⟩ := Option.map_eq_some_iff.mp e
    rw [hasL] at hm
    obtain ⟨m1, m2⟩ := or_false' hm
    obtain ⟨ps, ms, rfl, pp, ek, rr, hl⟩ := t.kpairs h0 m2
    obtain ⟨p, us, rfl, _, ru, zz⟩ := r.tup_inv (Sub.refl Z)
    rw [W.has] at m1
    have ru := ru.pure m1 L
    cases ru with
    | cons rk rt _ _ _ =>
      cases rt with
      | cons rv rn x1 _ _ =>
        cases rn
        cases keyOf_rep hk rk
        exact ⟨p :: ps, (key, _) :: ms, rfl, .cons zz pp, by simp [ek], .cons (h1 := emp) (h2 := emp) ((rv.wid x1).wid ‹Sub _ emp›) rr (.emp _) (.emp _) (.emp _), by simp [hl]⟩
def rBlt (K : PySem.W.Frag) : Blt → List V → Hp → VK → Prop
  | .len => fun xs H Q => (∃ p ys, xs = [.ref p] ∧ (SqL K H p ys ∨ SqT K H p ys) ∧ Q (.int ys.length) H) ∨ (∃ a kvs, xs = [.ref a] ∧ Rd H a (.dK kvs) ∧ Q (.int kvs.length) H) ∨ ∃ z, xs = [.str z] ∧ z.length ≤ sizeLine ∧ Q (.int z.length) H
  | .dict => fun xs H Q => ∃ (a : Addr) (ps : List Addr) (kvs : List (Key × V)), xs = [.ref a] ∧ SqL K H a (ps.map V.ref) ∧ Paired (fun p kv => SqT K H p [kV kv.1, kv.2]) ps kvs ∧ ∀ p, H p = none → Q (.ref p) (upd H p (.dK (mergeK [] kvs)))
  | .str => fun xs H Q => (∃ i, xs = [.int i] ∧ i.natAbs.log2 < 1920 ∧ Q (.str (toString i)) H) ∨ ∃ a, xs = [.str a] ∧ Q (.str a) H
  | .int => fun xs H Q => ((∃ i, xs = [.int i] ∧ Q (.int i) H) ∨ ∃ k, xs = [.bl k] ∧ Q (.int (if k then 1 else 0)) H) ∨ ∃ a n, xs = [.str a] ∧ PySem.intText? a = some n ∧ a.length ≤ 640 ∧ Q (.int n) H
  | .abs => fun xs H Q => ∃ i, xs = [.int i] ∧ Q (.int (if i < 0 then -i else i)) H
  | .min => fun xs H Q => ((∃ i j, xs = [.int i, .int j] ∧ Q (.int (if j < i then j else i)) H) ∨ rMin K xs H Q) ∨ rMinP K xs H Q
  | .max => fun xs H Q => (∃ i j, xs = [.int i, .int j] ∧ Q (.int (if j > i then j else i)) H) ∨ rMax K xs H Q
  | .sum => rSum K
  | .all => rAll K
  | .any => rAny K
  | .sorted => fun xs H Q => rSortedI K xs H Q ∨ rSortedT K xs H Q
  | .list => fun xs H Q => ∃ p ys, xs = [.ref p] ∧ (SqL K H p ys ∨ SqT K H p ys) ∧ ∀ l, H l = none → Q (.ref l) (upd H l (.lst ys))
  | .tuple => fun xs H Q => ∃ p ys, xs = [.ref p] ∧ ((SqL K H p ys ∧ ∀ l, H l = none → Q (.ref l) (upd H l (.tup ys))) ∨ (SqT K H p ys ∧ Q (.ref p) H))
  | .repr => rRepr K
theorem cr_blt (c : Ctx X T) (b : Blt) : CallR X b.val (rBlt T.K b) := by
  rw [← c.kk]
  cases b with
  | len => exact call_len_seq.or (call_lenR.or call_len_str)
  | dict => exact call_dictP c.calm
  | str => exact call_str_int.or SkE.call_str_str
  | int => exact call_int1.or call_int_str
  | abs => exact call_abs
  | min => exact ((call_min2 c.calm).or (cr_min c.calm)).or (cr_minP c)
  | max => exact (call_max2 c.calm).or (cr_max c.calm)
  | sum => exact cr_sum c.calm
  | all => exact cr_all c.calm
  | any => exact cr_any c.calm
  | sorted => exact cr_sortedI.or cr_sortedT
  | list => exact call_list_of
  | tuple => exact call_tuple_of
  | repr => exact call_reprD c
theorem leastI_le : ∀ (r : List Int) (m : Int), leastI m r ≤ m ∧ (∀ x ∈ r, leastI m r ≤ x) ∧ (leastI m r = m ∨ leastI m r ∈ r)
  | [], m => ⟨Int.le_refl _, by simp, .inl rfl⟩
  | x :: r, m => by
    by_cases hx : x < m
    · obtain ⟨a, b, c⟩ := leastI_le r x
      simp only [leastI, hx, if_true]
      refine ⟨by omega, fun y hy => ?_, ?_⟩
      · rcases List.mem_cons.mp hy with rfl | hy
        · exact a
        · exact b y hy
      · rcases c with c | c
        · rw [c]; exact .inr (by simp)
        · exact .inr (by simp [c])
    · obtain ⟨a, b, c⟩ := leastI_le r m
      simp only [leastI, hx, if_false]
      refine ⟨a, fun y hy => ?_, ?_⟩
      · rcases List.mem_cons.mp hy with rfl | hy
        · omega
        · exact b y hy
      · rcases c with c | c
        · rw [c]; exact .inl rfl
        · exact .inr (by simp [c])
theorem mostI_le : ∀ (r : List Int) (m : Int), m ≤ mostI m r ∧ (∀ x ∈ r, x ≤ mostI m r) ∧ (mostI m r = m ∨ mostI m r ∈ r)
  | [], m => ⟨Int.le_refl _, by simp, .inl rfl⟩
  | x :: r, m => by
    by_cases hx : m < x
    · obtain ⟨a, b, c⟩ := mostI_le r x
      simp only [mostI, hx, if_true]
      refine ⟨by omega, fun y hy => ?_, ?_⟩
      · rcases List.mem_cons.mp hy with rfl | hy
        · exact a
        · exact b y hy
      · rcases c with c | c
        · rw [c]; exact .inr (by simp)
        · exact .inr (by simp [c])
    · obtain ⟨a, b, c⟩ := mostI_le r m
      simp only [mostI, hx, if_false]
      refine ⟨a, fun y hy => ?_, ?_⟩
      · rcases List.mem_cons.mp hy with rfl | hy
        · omega
        · exact b y hy
      · rcases c with c | c
        · rw [c]; exact .inl rfl
        · exact .inr (by simp [c])
theorem insI_perm (x : Int) : ∀ l : List Int, (insI x l).Perm (x :: l)
  | [] => .refl _
  | y :: r => by
    unfold insI
    split
    · exact .refl _
    · exact ((insI_perm x r).cons y).trans (.swap _ _ _)
theorem sortI_perm : ∀ l : List Int, (sortI l).Perm l
  | [] => .refl _
  | x :: r => (insI_perm x (sortI r)).trans ((sortI_perm r).cons x)
theorem insI_up (x : Int) : ∀ l : List Int, l.Pairwise (· ≤ ·) → (insI x l).Pairwise (· ≤ ·)
  | [], _ => by simp [insI]
  | y :: r, h => by
    rw [List.pairwise_cons] at h
    unfold insI
    split
    · rw [List.pairwise_cons, List.pairwise_cons]
      refine ⟨fun z hz => ?_, h⟩
      rcases List.mem_cons.mp hz with rfl | hz
      · assumption
      · have := h.1 z hz; omega
    · rw [List.pairwise_cons]
      refine ⟨fun z hz => ?_, insI_up x r h.2⟩
      rcases List.mem_cons.mp ((insI_perm x r).mem_iff.mp hz) with rfl | hz
      · omega
      · exact h.1 z hz
theorem sortI_up : ∀ l : List Int, (sortI l).Pairwise (· ≤ ·)
  | [] => .nil
  | x :: r => insI_up x _ (sortI_up r)
theorem sortI_one {l l' : List Int} (p : l'.Perm l) (u : l'.Pairwise (· ≤ ·)) : l' = sortI l := PySem.W.ksm_same (p.trans (sortI_perm l).symm) u (sortI_up l)
theorem Reps.one {g : Hp} {w : W} {vs : List V} (r : Reps T Z L g [w] vs) : ∃ v, vs = [v] ∧ Rep T Z L g w v := by
  cases r with
  | cons r t a b d => cases t; exact ⟨_, rfl, r.wid a⟩
theorem Reps.two {g : Hp} {w w' : W} {vs : List V} (r : Reps T Z L g [w, w'] vs) : ∃ v v', vs = [v, v'] ∧ Rep T Z L g w v ∧ Rep T Z L g w' v' := by
  cases r with
  | cons r t a b d =>
    obtain ⟨v', rfl, t'⟩ := t.one
    exact ⟨_, _, rfl, r.wid a, t'.wid b⟩
theorem has_strs {ns : List Int} : hasL Fl.isMut (ns.map W.int) = false := by
  induction ns with
  | nil => rfl
  | cons n r ih => rw [List.map_cons, hasL, ih]; rfl
theorem Reps.pairs : ∀ {g : Hp} {ws : List W} {vs : List V} {ps : List (Int × Int)} {H : Hp}, Reps T Z L g ws vs → Sub Z H → pairsOf ws = some ps →
    vs.length = ps.length ∧ ∀ (i : Nat) y p, vs[i]? = some y → ps[i]? = some p → ∃ t, y = V.ref t ∧ SqT T.K Z t [.int p.1, .int p.2]
  | _, _, _, _, _, .nil, _, e => by cases e; exact ⟨rfl, fun i y p h => by simp at h⟩
  | _, _, _, _, _, .cons (w := w) r t a b d, z, e => by
    simp only [pairsOf, Option.bind_eq_some_iff, Option.map_eq_some_iff] at e
    obtain ⟨q, e1, qs, e2, rfl⟩ := e
    obtain ⟨x1, x2⟩ := t.pairs z e2
    refine ⟨by simp [x1], fun i y p h1 h2 => ?_⟩
    cases i with
    | zero =>
      simp only [List.getElem?_cons_zero, Option.some.injEq] at h1 h2
      subst h1 h2
      unfold pairOf at e1
      split at e1
      · cases e1
        obtain ⟨a', vs', rfl, _, r2, z2⟩ := r.tup_inv z
        obtain ⟨v1, v2, rfl, q1, q2⟩ := r2.two
        cases q1; cases q2
        exact ⟨_, rfl, z2⟩
      · cases e1
    | succ i => exact x2 i y p (by simpa using h1) (by simpa using h2)
mutual
theorem plain_nodict (w : W) : w.plain = true → w.dat.hasDict = false := match w with
  | .non | .bl _ | .int _ | .str _ => fun _ => rfl
  | .tup ws => fun e => by rw [W.plain] at e; rw [W.dat, PyData.hasDict]; exact plainL_nodict ws e
  | .lst _ ws => fun e => by rw [W.plain] at e; rw [W.dat, PyData.hasDict]; exact plainL_nodict ws e
  | .dct _ _ => fun e => by rw [W.plain] at e; cases e
  | .ins _ _ _ => fun e => by rw [W.plain] at e; cases e
theorem plainL_nodict (ws : List W) : plainL ws = true → PyData.hasDictAll (datL ws) = false := match ws with
  | [] => fun _ => rfl
  | w :: r => fun e => by
    rw [plainL, Bool.and_eq_true] at e
    rw [datL, PyData.hasDictAll, plain_nodict w e.1, plainL_nodict r e.2]; rfl
end
theorem opN_blt (b : Blt) : OpN T (rBlt T.K b) (bltF b) := by
  intro L s t1 ws w vs Q k s1 r e hq
  have done : ∀ {v : V} {x : W}, Rep T s.Z L emp x v → w = x → Q v s.H := fun r0 e0 => by subst e0; exact hq _ s emp (Post.refl k) rfl r0
  unfold bltF at e
  split at e <;> try (cases e; done)
  all_goals try (rename_i heq; first | (cases heq; done) | skip)
  · obtain ⟨v, rfl, x0⟩ := r.one
    replace r := x0
    obtain ⟨a, vs, hc, rfl, q1, r1, b1, _⟩ := r.lst_inv k.zh k.lh s1
    exact .inl ⟨a, vs, rfl, .inl (.inl q1), done .int (by rw [← r1.length]; cases e; rfl)⟩
  · obtain ⟨v, rfl, x0⟩ := r.one
    replace r := x0
    obtain ⟨a, vs, rfl, q1, r1, _⟩ := r.tup_inv k.zh
    exact .inl ⟨a, vs, rfl, .inr q1, done .int (by rw [← r1.length]; cases e; rfl)⟩
  · obtain ⟨v, rfl, x0⟩ := r.one
    replace r := x0
    obtain ⟨a, vs, hc, rfl, q1, ek, nd, rr, b1⟩ := r.dct_inv k.zh k.lh s1
    refine .inr (.inl ⟨a, vs, rfl, q1, done .int ?_⟩)
    have := congrArg List.length ek
    rw [List.length_map, List.length_map] at this
    rw [← this]; cases e; rfl
  · obtain ⟨v, rfl, x0⟩ := r.one
    replace r := x0
    cases r
    obtain ⟨e1, rfl⟩ := opt_some e
    exact .inr (.inr ⟨_, rfl, by rw [← sz_eq]; exact of_decide_eq_true e1, done .int rfl⟩)
  · obtain ⟨v, rfl, x0⟩ := r.one
    replace r := x0
    cases r
    exact .inl (.inl ⟨_, rfl, done .int (by cases e; rfl)⟩)
  · obtain ⟨v, rfl, x0⟩ := r.one
    replace r := x0
    cases r
    exact .inl (.inr ⟨_, rfl, done .int (by cases e; rfl)⟩)
  · obtain ⟨v, rfl, x0⟩ := r.one
    replace r := x0
    cases r
    obtain ⟨n, hn, e⟩ := Option.bind_eq_some_iff.mp e
    obtain ⟨e1, rfl⟩ := opt_some e
    exact .inr ⟨_, n, rfl, hn, of_decide_eq_true e1, done .int rfl⟩
  · obtain ⟨v, rfl, x0⟩ := r.one
    replace r := x0
    cases r
    exact ⟨_, rfl, done .int (by cases e; rfl)⟩
  · obtain ⟨v, v', rfl, x0, r'⟩ := r.two
    replace r := x0
    cases r; cases r'
    exact .inl (.inl ⟨_, _, rfl, done .int (by cases e; rfl)⟩)
  · obtain ⟨v, v', rfl, x0, r'⟩ := r.two
    replace r := x0
    cases r; cases r'
    exact .inl ⟨_, _, rfl, done .int (by cases e; rfl)⟩
  · obtain ⟨v, rfl, x0⟩ := r.one
    replace r := x0
    obtain ⟨a, vs, hc, rfl, q1, r1, b1, _⟩ := r.lst_inv k.zh k.lh s1
    rename_i ws
    unfold minF at e
    split at e
    · rename_i x r0 hi
      cases e
      have ev := r1.ints hi
      subst ev
      refine .inl (.inr ⟨a, x :: r0, rfl, .inl q1, by simp, fun m hm hle => ?_⟩)
      obtain ⟨c1, c2, c3⟩ := leastI_le r0 x
      have : m = leastI x r0 := by
        have h1 : leastI x r0 ≤ m := by
          rcases List.mem_cons.mp hm with rfl | hm
          · exact c1
          · exact c2 m hm
        have h2 : m ≤ leastI x r0 := by
          rcases c3 with c3 | c3
          · rw [c3]; exact hle x (by simp)
          · exact hle _ (by simp [c3])
        omega
      subst this
      exact done .int rfl
    · cases e
    · split at e
      · rename_i x r0 hps
        cases e
        obtain ⟨h1, h2⟩ := r1.pairs k.zh hps
        refine .inr ⟨a, vs, x :: r0, rfl, .inl q1, by simp, h1, fun i y p g1 g2 => ?_, fun i y p g1 g2 le lt => ?_⟩
        · obtain ⟨t, rfl, ht⟩ := h2 i y p g1 g2
          exact ⟨t, rfl, sqT_sub k.zh ht⟩
        · obtain ⟨t, rfl, ht⟩ := h2 i y p g1 g2
          obtain ⟨c1, c2⟩ := leastP_le r0 x
          have : p = leastP x r0 := lessP_anti (c1 p (List.mem_of_getElem? g2)) (le _ c2)
          subst this
          exact done (.tup ht (.cons .int (.cons .int .nil (.refl _) (.refl _) (.emp _)) (.refl _) (.refl _) (.emp _))) rfl
      · cases e
  · obtain ⟨v, rfl, x0⟩ := r.one
    replace r := x0
    obtain ⟨a, vs, hc, rfl, q1, r1, b1, _⟩ := r.lst_inv k.zh k.lh s1
    unfold maxF at e
    split at e
    · rename_i x r0 hi
      cases e
      have ev := r1.ints hi
      subst ev
      refine .inr ⟨a, x :: r0, rfl, .inl q1, by simp, fun m hm hle => ?_⟩
      obtain ⟨c1, c2, c3⟩ := mostI_le r0 x
      have : m = mostI x r0 := by
        have h1 : m ≤ mostI x r0 := by
          rcases List.mem_cons.mp hm with rfl | hm
          · exact c1
          · exact c2 m hm
        have h2 : mostI x r0 ≤ m := by
          rcases c3 with c3 | c3
          · rw [c3]; exact hle x (by simp)
          · exact hle _ (by simp [c3])
        omega
      subst this
      exact done .int rfl
    · cases e
  · obtain ⟨v, rfl, x0⟩ := r.one
    replace r := x0
    obtain ⟨a, vs, hc, rfl, q1, r1, b1, _⟩ := r.lst_inv k.zh k.lh s1
    obtain ⟨ns, hi, rfl⟩ := Option.map_eq_some_iff.mp e
    have ev := r1.ints hi
    subst ev
    exact ⟨a, ns, rfl, .inl q1, done .int rfl⟩
  · obtain ⟨v, rfl, x0⟩ := r.one
    replace r := x0
    obtain ⟨a, vs, hc, rfl, q1, r1, b1, _⟩ := r.lst_inv k.zh k.lh s1
    obtain ⟨ns, hi, rfl⟩ := Option.map_eq_some_iff.mp e
    have ev := r1.bls hi
    subst ev
    exact ⟨a, ns, rfl, .inl q1, done .bl rfl⟩
  · obtain ⟨v, rfl, x0⟩ := r.one
    replace r := x0
    obtain ⟨a, vs, hc, rfl, q1, r1, b1, _⟩ := r.lst_inv k.zh k.lh s1
    obtain ⟨ns, hi, rfl⟩ := Option.map_eq_some_iff.mp e
    have ev := r1.bls hi
    subst ev
    exact ⟨a, ns, rfl, .inl q1, done .bl rfl⟩
  · obtain ⟨v, rfl, x0⟩ := r.one
    replace r := x0
    obtain ⟨a, vs, hc, rfl, q1, r1, b1, _⟩ := r.lst_inv k.zh k.lh s1
    obtain ⟨ns, hi, rfl⟩ := Option.map_eq_some_iff.mp e
    have ev := r1.ints hi
    subst ev
    refine .inl ⟨a, ns, rfl, .inl q1, fun ns' p hp hu hn => ?_⟩
    rw [sortI_one hp hu]
    exact new_list (w := .non) k (reps_ints _) hq hn
  · obtain ⟨v, rfl, x0⟩ := r.one
    replace r := x0
    obtain ⟨a, vs, rfl, q1, r1, _⟩ := r.tup_inv k.zh
    obtain ⟨ns, hi, rfl⟩ := Option.map_eq_some_iff.mp e
    have ev := r1.ints hi
    subst ev
    refine .inr ⟨a, ns, rfl, q1, fun ns' p hp hu hn => ?_⟩
    rw [sortI_one hp hu]
    exact new_list (w := .non) k (reps_ints _) hq hn
  · obtain ⟨v, rfl, x0⟩ := r.one
    replace r := x0
    obtain ⟨a, vs, hc, rfl, q1, r1, b1, _⟩ := r.lst_inv k.zh k.lh s1
    obtain ⟨e1, rfl⟩ := opt_some e
    exact ⟨a, vs, rfl, .inl (.inl q1), fun l hl => new_list (w := .non) k (r1.pure (by simpa using e1) L) hq hl⟩
  · obtain ⟨v, rfl, x0⟩ := r.one
    replace r := x0
    obtain ⟨a, vs, rfl, q1, r1, _⟩ := r.tup_inv k.zh
    obtain ⟨e1, rfl⟩ := opt_some e
    exact ⟨a, vs, rfl, .inr q1, fun l hl => new_list (w := .non) k (r1.pure (by simpa using e1) L) hq hl⟩
  · obtain ⟨v, rfl, x0⟩ := r.one
    replace r := x0
    obtain ⟨a, vs, hc, rfl, q1, r1, b1, _⟩ := r.lst_inv k.zh k.lh s1
    obtain ⟨e1, rfl⟩ := opt_some e
    exact ⟨a, vs, rfl, .inl ⟨.inl q1, fun l hl => new_tup k (r1.pure (by simpa using e1) L) hq hl⟩⟩
  · obtain ⟨v, rfl, x0⟩ := r.one
    replace r := x0
    obtain ⟨a, vs, rfl, q1, r1, zz⟩ := r.tup_inv k.zh
    obtain ⟨e1, rfl⟩ := opt_some e
    exact ⟨a, vs, rfl, .inr ⟨q1, done (.tup zz (r1.pure (by simpa using e1) L)) rfl⟩⟩
  · obtain ⟨v, rfl, x0⟩ := r.one
    replace r := x0
    obtain ⟨kvs, hk, e⟩ := Option.bind_eq_some_iff.mp e
    obtain ⟨e1, rfl⟩ := opt_some e
    simp only [Bool.and_eq_true, Bool.not_eq_true', decide_eq_true_eq] at e1
    obtain ⟨a, vs, hc, rfl, q1, rr, b1, _⟩ := r.lst_inv k.zh k.lh s1
    obtain ⟨ps, ms, rfl, pp, ek, rm, hl⟩ := rr.kpairs hk e1.1
    refine ⟨a, ps, ms, rfl, .inl q1, ?_, fun p hp => ?_⟩
    · exact pp.mono fun _ _ h => sqT_sub k.zh h
    · obtain ⟨z1, z2, z3⟩ := merge_rep (T := T) (kvs := []) (vs := []) (g := emp) rfl List.nodup_nil .nil ek rm
      exact new_dct k z1 z2 z3 hq hp
  · obtain ⟨v, rfl, x0⟩ := r.one
    replace r := x0
    cases r
    obtain ⟨e1, rfl⟩ := opt_some e
    exact .inl ⟨_, rfl, of_decide_eq_true e1, done .str rfl⟩
  · obtain ⟨v, rfl, x0⟩ := r.one
    replace r := x0
    cases r
    exact .inr ⟨_, rfl, done .str (by cases e; rfl)⟩
  · obtain ⟨v, rfl, x0⟩ := r.one
    replace r := x0
    obtain ⟨e1, rfl⟩ := opt_some e
    simp only [Bool.and_eq_true, decide_eq_true_eq] at e1
    exact ⟨v, _, rfl, r.dp k.zh k.lh s1 e1.1.1.1, e1.1.1.2, plain_nodict _ e1.1.1.1, e1.1.2, by rw [← sz_eq]; exact e1.2, done .str rfl⟩
end
end VL
set_option Elab.async false
set_option linter.all false
set_option maxRecDepth 100000
set_option maxHeartbeats 1000000
namespace VL
open PySem L2
section
variable {X : Cx} {T : Tb} {E : XK} {Z L h : Hp} {s : Sx} {ρ : Nat → Fn} {e a b : Expr} {pos p : Pos}
theorem pe_blt (c : Ctx X T) (b : Blt) {es : List Expr} {ta : TA} (hg : Gl X b.name) (hm : X.mg b.name = none) (ha : PA X (a :: es) ta)
    (he : starEach (a :: es) X.env = (false, eval a X.env) :: starEach es X.env) (hpl : (backTo pos (starEach es X.env)).any (·.1) = false) : PE X (.Call (.Name b.name p) (a :: es) [] pos) (tCB (rBlt T.K b) ta) := by
  have hc := cr_blt c b
  cases b <;> first
    | exact pe_callB hc hg hm (by decide +kernel) ha (by decide) (by decide) he hpl
    | exact pe_callTy hc hg hm (by decide +kernel) ha (by decide) (by decide) he hpl
theorem se_blt (c : Ctx X T) (b : Blt) {es : List Expr} {is : List IE} (hg : Gl X b.name) (hm : X.mg b.name = none) (ha : SA X T E (a :: es) (evs ρ is))
    (he : starEach (a :: es) X.env = (false, eval a X.env) :: starEach es X.env) (hpl : (backTo pos (starEach es X.env)).any (·.1) = false) : SE X T E (.Call (.Name b.name p) (a :: es) [] pos) (ev ρ (.blt b is)) := by
  obtain ⟨ta, pa, ha⟩ := ha
  refine ⟨_, pe_blt c b hg hm pa he hpl, fun ro env σ s L Q k rr re w => ?_⟩
  rw [ev] at w
  refine ha ro env σ s L _ k rr re (WantG.bind w (Post.refl k) fun ws env1 vs s1 t1 p1 e1 r1 w1 => ?_)
  obtain ⟨k1, d1⟩ := k.post p1
  obtain ⟨z, q, w1⟩ := want_opt w1
  exact opN_blt b L s1 t1 ws z vs Q k1 p1.th r1 q fun v s3 t3 p3 e3 r3 => w1 v s3 t3 (p1.trans p3) (by rw [e3]; exact e1.up p3.zz) r3
/-! ## isinstance -/
def Ty.nm : Ty → String | .int => "int" | .bool => "bool" | .tuple => "tuple" | .str => "str" | .list => "list"
def Ty.name : Ty → Str | .int => "int" | .bool => "bool" | .tuple => "tuple" | .str => "str" | .list => "list"
def W.tyn : W → String
  | .non => "NoneType" | .bl _ => "bool" | .int _ => "int" | .str _ => "str" | .tup _ => "tuple" | .lst _ _ => "list" | .dct _ _ => "dict" | .ins _ _ _ => ""
theorem isin_kit {K : PySem.W.Frag} {t : Ty} {w : W} {b : Bool} (h : isinF t w = some b) : PySem.W.kitOne K (.type w.tyn) (.type t.nm) = some b := by
  refine kit_ty ?_
  cases t <;> cases w <;> (simp only [isinF] at h) <;> first | (cases h; done) | (cases h; simp only [W.tyn, Ty.nm]; decide +kernel)
theorem ty_rep {g : Hp} {w : W} {v : V} {H : Hp} (r : Rep T Z L g w v) (z : Sub Z H) (l : Sub L H) (gg : Sub g H) (h : w.tyn ≠ "") : TyX T.K H v (.type w.tyn) := by
  cases r with
  | non => exact .base .non
  | bl => exact .base (.bl _)
  | int => exact .base (.int _)
  | str => exact .base (.str _)
  | tup q r =>
    rcases sqT_sub z q with (q | ⟨o, q⟩) | ⟨o, its, n, q, c, d, _⟩
    · exact .base (.tup q)
    · exact .fTuple q
    · exact .kTuple q c
  | lst q k n r =>
    rename_i hc m ws a vs
    cases m with
    | own => exact .base (.lst (gg _ _ q))
    | lnt => exact .base (.lst (l _ _ q))
    | frz =>
      rcases rd_sub z q with q | ⟨o, q⟩
      · exact .base (.lst q)
      · exact .base (.frz q)
  | dct q k n ek nd r =>
    rename_i hc m kvs a vs
    cases m with
    | own => exact .base (.dK (gg _ _ q))
    | lnt =>
      rcases rd_sub l q with q | ⟨o, q⟩
      · exact .base (.dK q)
      · exact .fDict q
    | frz =>
      rcases rd_sub z q with q | ⟨o, q⟩
      · exact .base (.dK q)
      · exact .fDict q
  | ins => exact absurd rfl h
theorem se_isin (c : Ctx X T) {ia : IE} (t : Ty) {p2 : Pos} (hg : Gl X "isinstance") (hm : X.mg "isinstance" = none) (hg2 : Gl X t.name) (hm2 : X.mg t.name = none) (ha : SE X T E a (ev ρ ia))
    (he : starEach [a, .Name t.name p2] X.env = (false, eval a X.env) :: starEach [.Name t.name p2] X.env) : SE X T E (.Call (.Name "isinstance" p) [a, .Name t.name p2] [] pos) (ev ρ (.isin ia t)) := by
  obtain ⟨ta, pa, ha⟩ := ha
  have pn : PE X (.Name t.name p2) (tC (.ty t.nm)) := by cases t <;> exact pe_bltn hg2 hm2 (by decide +kernel) rfl (by decide) (by decide)
  refine ⟨_, pe_callB (by rw [← c.kk]; exact call_isi : CallR X (.builtin "isinstance") (rIsi T.K)) hg hm (by decide +kernel) (pa_cons pa (pa_cons pn pa_nil) he) (by decide) (by decide) he rfl, fun ro env σ s L Q k rr re w => ?_⟩
  rw [ev] at w
  refine ha ro env σ s L _ k rr re (WantG.bind w (Post.refl k) fun x env1 v1 s1 t1 p1 e1 r1 w1 => ?_)
  obtain ⟨k1, d1⟩ := k.post p1
  cases q : isinF t x with
  | none => rw [q] at w1; exact w1.elim
  | some kk =>
    rw [q] at w1
    refine ⟨v1, .ty t.nm, .type x.tyn, .type t.nm, kk, rfl, .ty _, ty_rep r1 p1.zh k1.lh p1.th ?_, isin_kit q, w1 _ s1 emp p1.bare e1 .bl⟩
    cases x <;> first | (simp [W.tyn]; done) | (exfalso; cases t <;> simp [isinF] at q)
/-! ## what is gone through -/
def Gives (T : Tb) (L : Hp) (J : L2.It) (items : List W) (Z0 t : Hp) : Prop := ∀ (s' : Sx), Hs L s' → Sub Z0 s'.Z → Sub t s'.H → ∀ i : Nat, (items.length ≤ i → J.stop i s'.H) ∧
  ∀ w, items[i]? = some w → J.go i s'.H ∧ ∀ x H'', J.yld i s'.H x H'' → ∃ s'' : Sx, s''.H = H'' ∧ Post s' s'' emp ∧ s''.E = s'.E ∧ Rep T s''.Z L emp w x
def SI (X : Cx) (T : Tb) (E : XK) (tg e : Expr) (f : Env → Env → R (List W)) : Prop := ∃ wi, PI X tg e wi ∧ ∀ (ro env : Env) (σ : St) (s : Sx) (L : Hp) (Q : L2.It → Hp → Prop), Hs L s → EnvR T s.Z L emp ro σ → EnvR T s.Z emp s.E env σ →
  WantG (fun Z t items J => Gives T L J items Z t) T σ s (f ro env) Q E → wi σ s.H Q
theorem PI_or {tg it : Expr} {w1 w2 : TI} (h1 : PI X tg it w1) (h2 : PI X tg it w2) : PI X tg it (fun σ H R => w1 σ H R ∨ w2 σ H R) := ⟨fun pins s σ H R I h => h.elim (h1.run pins s σ H R I) (h2.run pins s σ H R I)⟩
theorem gives_list {a : Addr} {ws : List W} {vs : List V} {Z0 t : Hp} (hq : ∀ H, Sub Z0 H → Sub L H → Sub t H → SqL T.K H a vs) (r : Reps T Z0 L emp ws vs) : Gives T L (Itl T.K a) ws Z0 t := fun s' k z tt i => by
  have hl := hq s'.H (z.trans k.zh) k.lh tt
  refine ⟨fun hi => ⟨vs, hl, by rw [← r.length]; exact hi⟩, fun w hw => ?_⟩
  obtain ⟨v, h1, x1, x2, x3⟩ := r.get hw
  refine ⟨⟨vs, v, hl, x1⟩, fun x H'' y => ?_⟩
  obtain ⟨rfl, y⟩ := y
  have : v = x := Option.some.inj (x1.symm.trans (y vs hl))
  subst this
  exact ⟨s', rfl, Post.refl k, rfl, (x2.up z).wid x3⟩
theorem gives_tup {a : Addr} {ws : List W} {vs : List V} {Z0 t : Hp} (hq : ∀ H, Sub Z0 H → Sub L H → Sub t H → SqT T.K H a vs) (r : Reps T Z0 L emp ws vs) : Gives T L (Itt T.K a) ws Z0 t := fun s' k z tt i => by
  have hl := hq s'.H (z.trans k.zh) k.lh tt
  refine ⟨fun hi => ⟨vs, hl, by rw [← r.length]; exact hi⟩, fun w hw => ?_⟩
  obtain ⟨v, h1, x1, x2, x3⟩ := r.get hw
  refine ⟨⟨vs, v, hl, x1⟩, fun x H'' y => ?_⟩
  obtain ⟨rfl, y⟩ := y
  have : v = x := Option.some.inj (x1.symm.trans (y vs hl))
  subst this
  exact ⟨s', rfl, Post.refl k, rfl, (x2.up z).wid x3⟩
/-- the list's place, whatever comes -/
theorem Rep.lst_at {m : Fl} {ws : List W} {v : V} {Z0 t : Hp} (r : Rep T Z0 L t (.lst m ws) v) : ∃ a vs hc, v = .ref a ∧ (∀ H, Sub Z0 H → Sub L H → Sub t H → SqL T.K H a vs) ∧ Reps T Z0 L hc ws vs := by
  cases r with
  | lst q kd n r =>
    rename_i hc a vs
    refine ⟨a, vs, hc, rfl, fun H z l k => .inl ?_, r⟩
    cases m with
    | own => exact Rd.of (k _ _ q)
    | frz => exact rd_sub z q
    | lnt => exact Rd.of (l _ _ q)
theorem gives_str {x : Str} {Z0 t : Hp} : Gives T L (Its x) (x.cps.toList.map fun c => .str ⟨#[c]⟩) Z0 t := fun s' k z tt i => by
  refine ⟨fun hi => (show x.cps.size ≤ i by simpa using hi), fun w hw => ?_⟩
  rw [List.getElem?_map] at hw
  obtain ⟨c, hc, rfl⟩ := Option.map_eq_some_iff.mp hw
  have hc' : x.cps[i]? = some c := by simpa using hc
  refine ⟨(Array.getElem?_eq_some_iff.mp hc').1, fun v H'' y => ?_⟩
  obtain ⟨rfl, c', h1, rfl⟩ := y
  rw [hc'] at h1
  cases h1
  exact ⟨s', rfl, Post.refl k, rfl, .str⟩
theorem si_val {tg : Expr} {ia : IE} (c : Ctx X T) (ha : SE X T E a (ev ρ ia)) : SI X T E tg a (evIt ρ (.val ia)) := by
  obtain ⟨ta, pa, ha⟩ := ha
  refine ⟨_, PI_or (pi_list pa) (PI_or (pi_tup pa) (pi_str pa)), fun ro env σ s L Q k rr re w => ?_⟩
  rw [evIt] at w
  cases q : ev ρ ia ro env with
  | bad => rw [q] at w; exact w.elim
  | ex c0 x env1 =>
    rw [q] at w
    refine .inl (ha ro env σ s L _ k rr re ?_)
    rw [q]
    exact w
  | ok x env1 =>
    rw [q] at w
    simp only [R.bind_ok] at w
    cases x with
    | lst m ws =>
      simp only [W.seq?, bindE] at w
      split at w
      · exact w.elim
      · rename_i ho
        refine .inl (ha ro env σ s L _ k rr re ?_)
        rw [q]
        intro v s' t p e r
        obtain ⟨a', vs, hc, rfl, q1, r1⟩ := r.lst_at
        have k' := (k.post p).1
        rw [c.kk]
        exact ⟨a', rfl, ⟨vs, q1 _ p.zh k'.lh p.th⟩, w _ s' t p e (gives_list q1 (r1.bare (by simpa using ho)))⟩
    | tup ws =>
      simp only [W.seq?, bindE] at w
      split at w
      · exact w.elim
      · rename_i ho
        refine .inr (.inl (ha ro env σ s L _ k rr re ?_))
        rw [q]
        intro v s' t p e r
        obtain ⟨a', vs, rfl, _, r1, q1⟩ := r.tup_inv (Sub.refl _)
        have k' := (k.post p).1
        rw [c.kk]
        exact ⟨a', rfl, ⟨vs, sqT_sub p.zh q1⟩, w _ s' t p e (gives_tup (fun H z _ _ => sqT_sub z q1) (r1.bare (by simpa using ho)))⟩
    | str x =>
      simp only [W.seq?, bindE] at w
      split at w
      · exact w.elim
      · refine .inr (.inr (ha ro env σ s L _ k rr re ?_))
        rw [q]
        intro v s' t p e r
        cases r
        exact ⟨x, rfl, w _ s' t p e gives_str⟩
    | _ => exact w.elim
theorem gives_rng {lo : Int} {n : Nat} {Z0 t : Hp} : Gives T L (Itr lo n) ((List.range n).map fun k => .int (lo + ((k : Nat) : Int))) Z0 t := fun s' k z tt i => by
  refine ⟨fun hi => (show n ≤ i by simpa using hi), fun w hw => ?_⟩
  rw [List.getElem?_map] at hw
  by_cases hi : i < n
  · rw [List.getElem?_range hi] at hw
    cases hw
    exact ⟨hi, fun x H'' y => by obtain ⟨rfl, rfl⟩ := y; exact ⟨s', rfl, Post.refl k, rfl, .int⟩⟩
  · rw [List.getElem?_eq_none (by simpa using hi)] at hw; cases hw
theorem si_rng1 {tg : Expr} {ia : IE} (hg : Gl X "range") (hm : X.mg "range" = none) (ha : SE X T E a (ev ρ ia)) (hs : starEach [a] X.env = [(false, eval a X.env)]) : SI X T E tg (.Call (.Name "range" p) [a] [] pos) (evIt ρ (.rng1 ia)) := by
  obtain ⟨ta, pa, ha⟩ := ha
  refine ⟨_, pi_range1 hg hm (pa_cons pa pa_nil hs) hs, fun ro env σ s L Q k rr re w => ?_⟩
  rw [evIt] at w
  refine ha ro env σ s L _ k rr re (WantG.bind w (Post.refl k) fun x env1 v1 s1 t1 p1 e1 r1 w1 => ?_)
  unfold rng1F at w1
  split at w1
  · split at w1
    · rename_i j hb
      cases r1
      exact ⟨_, rfl, hb.1, hb.2, w1 _ s1 emp p1.bare e1 gives_rng⟩
    · exact w1.elim
  · exact w1.elim
theorem si_rng2 {tg : Expr} {ia ib : IE} (hg : Gl X "range") (hm : X.mg "range" = none) (ha : SE X T E a (ev ρ ia)) (hb : SE X T E b (ev ρ ib)) (hs : starEach [a, b] X.env = [(false, eval a X.env), (false, eval b X.env)]) (hs2 : starEach [b] X.env = [(false, eval b X.env)]) :
    SI X T E tg (.Call (.Name "range" p) [a, b] [] pos) (evIt ρ (.rng2 ia ib)) := by
  obtain ⟨ta, pa, ha⟩ := ha
  obtain ⟨tb, pb, hb⟩ := hb
  refine ⟨_, pi_range2 hg hm (pa_cons pa (pa_cons pb pa_nil hs2) (by rw [hs, hs2])) hs hs2, fun ro env σ s L Q k rr re w => ?_⟩
  rw [evIt] at w
  refine ha ro env σ s L _ k rr re (WantG.bind w (Post.refl k) fun x env1 v1 s1 t1 p1 e1 r1 w1 => ?_)
  obtain ⟨k1, d1⟩ := k.post p1
  refine hb ro env1 σ s1 L _ k1 (rr.up p1.zz) e1 (WantG.bind w1 p1 fun y env2 v2 s2 t2 p2 e2 r2 w2 => ?_)
  unfold rng2F at w2
  split at w2
  · split at w2
    · rename_i i j hb
      cases r1
      cases r2
      exact ⟨_, _, rfl, hb, w2 _ s2 emp (p1.trans p2).bare e2 gives_rng⟩
    · exact w2.elim
  · exact w2.elim
theorem lst_inv' {w : W} {ws : List W} (h : w.lst? = some ws) : ∃ m, w = .lst m ws := by
  cases w <;> simp [W.lst?] at h
  subst h
  exact ⟨_, rfl⟩
theorem si_enum {es : List Expr} {kk : Nat} {tpos : Pos} {ia : IE} (c : Ctx X T) (hg : Gl X "enumerate") (hm : X.mg "enumerate" = none) (ha : SE X T E a (ev ρ ia)) (hs : starEach [a] X.env = [(false, eval a X.env)]) :
    SI X T E (.Tuple es kk tpos) (.Call (.Name "enumerate" p) [a] [] pos) (evIt ρ (.enum ia)) := by
  obtain ⟨ta, pa, ha⟩ := ha
  refine ⟨_, pi_enum hg hm (pa_cons pa pa_nil hs) hs, fun ro env σ s L Q k rr re w => ?_⟩
  rw [evIt] at w
  refine ha ro env σ s L _ k rr re (WantG.bind w (Post.refl k) fun x env1 v1 s1 t1 p1 e1 r1 w1 => ?_)
  obtain ⟨k1, d1⟩ := k.post p1
  unfold bindE at w1
  split at w1
  · rename_i ws hw
    obtain ⟨m, rfl⟩ := lst_inv' hw
    dsimp only at w1
    split at w1
    · exact w1.elim
    · rename_i ho
      obtain ⟨a', vs, hc, rfl, q1, rr1⟩ := r1.lst_at
      have rb := rr1.bare (by simpa using ho)
      rw [c.kk]
      refine ⟨a', vs, rfl, q1 _ p1.zh k1.lh p1.th, w1 _ s1 t1 p1 e1 fun s' k' z tt i => ?_⟩
      have hl := q1 s'.H (z.trans k'.zh) k'.lh tt
      refine ⟨fun hi => ⟨vs, hl, by rw [← rb.length]; simpa using hi⟩, fun w hw => ?_⟩
      rw [List.getElem?_mapIdx] at hw
      obtain ⟨w0, h0, rfl⟩ := Option.map_eq_some_iff.mp hw
      obtain ⟨v, h1, x1, x2, x3⟩ := rb.get h0
      refine ⟨⟨vs, v, hl, x1⟩, fun x H'' y => ?_⟩
      obtain ⟨T', y0, rfl, n0, rfl, hy⟩ := y
      have : v = y0 := Option.some.inj (x1.symm.trans (hy vs hl))
      subst this
      have pn := Post.newZ k' n0 (o := .tup [.int (i : Nat), v])
      exact ⟨_, rfl, pn, rfl, .tup (SqT.of upd_same) (.cons (h1 := emp) (h2 := emp) .int (.cons (h1 := emp) (h2 := emp) (((x2.up z).up pn.zz).wid x3) .nil (.emp _) (.emp _) (.emp _)) (.emp _) (.emp _) (.emp _))⟩
  · exact w1.elim
theorem si_zip {es : List Expr} {kk : Nat} {tpos : Pos} {ia ib : IE} (c : Ctx X T) (hg : Gl X "zip") (hm : X.mg "zip" = none) (ha : SE X T E a (ev ρ ia)) (hb : SE X T E b (ev ρ ib))
    (hs : starEach [a, b] X.env = (false, eval a X.env) :: starEach [b] X.env) (hs2 : starEach [b] X.env = [(false, eval b X.env)]) (hpl : (backTo pos (starEach [b] X.env)).any (·.1) = false) :
    SI X T E (.Tuple es kk tpos) (.Call (.Name "zip" p) [a, b] [] pos) (evIt ρ (.zip ia ib)) := by
  obtain ⟨ta, pa, ha⟩ := ha
  obtain ⟨tb, pb, hb⟩ := hb
  refine ⟨_, RZ.pi_zipA hg hm (pa_cons pa (pa_cons pb pa_nil hs2) hs) hs hpl, fun ro env σ s L Q k rr re w => ?_⟩
  rw [evIt] at w
  refine ha ro env σ s L _ k rr re (WantG.bind w (Post.refl k) fun x env1 v1 s1 t1 p1 e1 r1 w1 => ?_)
  obtain ⟨k1, d1⟩ := k.post p1
  refine hb ro env1 σ s1 L _ k1 (rr.up p1.zz) e1 (WantG.bind w1 p1 fun y env2 v2 s2 t2 p2 e2 r2 w2 => ?_)
  obtain ⟨k2, _⟩ := k1.post p2
  obtain ⟨a1, a2, a3, a4⟩ := p1.with p2
  unfold bindE at w2
  split at w2
  · rename_i pr hw
    dsimp only at w2
    split at w2
    · exact w2.elim
    · rename_i ho
      simp only [Bool.or_eq_true, not_or, Bool.not_eq_true] at ho
      unfold zipS at hw
      split at hw
      · cases hw
        obtain ⟨x1, vs, hc, rfl, q1, rr1⟩ := (r1.up p2.zz).lst_at
        obtain ⟨x2, vs', hc', rfl, q2, rr2⟩ := r2.lst_at
        have rb1 := rr1.bare ho.1
        have rb2 := rr2.bare ho.2
        rw [c.kk]
        refine ⟨x1, x2, vs, vs', rfl, .inl ⟨q1 _ p2.zh k2.lh a1, q2 _ p2.zh k2.lh p2.th, w2 _ s2 (join t1 t2) (p1.both p2) e2 fun s' k' z tt i => ?_⟩⟩
        have hl1 := q1 s'.H (z.trans k'.zh) k'.lh ((Sub.joinl _ _).trans tt)
        have hl2 := q2 s'.H (z.trans k'.zh) k'.lh ((Sub.joinr a4).trans tt)
        refine ⟨fun hi => ⟨vs, vs', hl1, hl2, ?_⟩, fun w hw => ?_⟩
        · rw [← rb1.length, ← rb2.length]
          rw [List.length_zipWith] at hi
          dsimp only at hi
          omega
        · rw [List.getElem?_zipWith] at hw
          split at hw
          · rename_i u u' g1 g2
            cases hw
            obtain ⟨v, h1, y1, y2, y3⟩ := rb1.get g1
            obtain ⟨v', h1', y1', y2', y3'⟩ := rb2.get g2
            refine ⟨⟨vs, vs', v, v', hl1, hl2, y1, y1'⟩, fun x H'' yy => ?_⟩
            obtain ⟨T', z0, z0', rfl, n0, rfl, hy, hy'⟩ := yy
            have e1 : v = z0 := Option.some.inj (y1.symm.trans (hy vs hl1))
            have e2 : v' = z0' := Option.some.inj (y1'.symm.trans (hy' vs' hl2))
            subst e1 e2
            have pn := Post.newZ k' n0 (o := .tup [v, v'])
            exact ⟨_, rfl, pn, rfl, .tup (SqT.of upd_same) (.cons (h1 := emp) (h2 := emp) (((y2.up z).up pn.zz).wid y3) (.cons (h1 := emp) (h2 := emp) (((y2'.up z).up pn.zz).wid y3') .nil (.emp _) (.emp _) (.emp _)) (.emp _) (.emp _) (.emp _))⟩
          · cases hw
      · cases hw
        obtain ⟨x1, vs, rfl, _, rr1, q1⟩ := (r1.up p2.zz).tup_inv (Sub.refl _)
        obtain ⟨x2, vs', rfl, _, rr2, q2⟩ := r2.tup_inv (Sub.refl _)
        have rb1 := rr1.bare ho.1
        have rb2 := rr2.bare ho.2
        rw [c.kk]
        refine ⟨x1, x2, vs, vs', rfl, .inr ⟨sqT_sub p2.zh q1, sqT_sub p2.zh q2, w2 _ s2 (join t1 t2) (p1.both p2) e2 fun s' k' z tt i => ?_⟩⟩
        have hl1 := sqT_sub (z.trans k'.zh) q1
        have hl2 := sqT_sub (z.trans k'.zh) q2
        refine ⟨fun hi => ⟨vs, vs', hl1, hl2, ?_⟩, fun w hw => ?_⟩
        · rw [← rb1.length, ← rb2.length]
          rw [List.length_zipWith] at hi
          dsimp only at hi
          omega
        · rw [List.getElem?_zipWith] at hw
          split at hw
          · rename_i u u' g1 g2
            cases hw
            obtain ⟨v, h1, y1, y2, y3⟩ := rb1.get g1
            obtain ⟨v', h1', y1', y2', y3'⟩ := rb2.get g2
            refine ⟨⟨vs, vs', v, v', hl1, hl2, y1, y1'⟩, fun x H'' yy => ?_⟩
            obtain ⟨T', z0, z0', rfl, n0, rfl, hy, hy'⟩ := yy
            have e1 : v = z0 := Option.some.inj (y1.symm.trans (hy vs hl1))
            have e2 : v' = z0' := Option.some.inj (y1'.symm.trans (hy' vs' hl2))
            subst e1 e2
            have pn := Post.newZ k' n0 (o := .tup [v, v'])
            exact ⟨_, rfl, pn, rfl, .tup (SqT.of upd_same) (.cons (h1 := emp) (h2 := emp) (((y2.up z).up pn.zz).wid y3) (.cons (h1 := emp) (h2 := emp) (((y2'.up z).up pn.zz).wid y3') .nil (.emp _) (.emp _) (.emp _)) (.emp _) (.emp _) (.emp _))⟩
          · cases hw
      · cases hw
  · exact w2.elim
/-! ## list(range(..)), tuple(range(..)) -/
def lrgN (tp : Bool) : Str := if tp then "tuple" else "list"
def tRgA (tp : Bool) (te : St → Hp → (Int → Int → Hp → Prop) → Prop) : TE := fun σ H Q => te σ H fun a b H1 => RgOk a b ∧ ∀ q, H1 q = none → Q (.ref q) (upd H1 q (if tp then .tup (rgV a b) else .lst (rgV a b)))
theorem pe_lrg {tp : Bool} {te : St → Hp → (Int → Int → Hp → Prop) → Prop} (c : Ctx X T) (hg : Gl X (lrgN tp)) (hm : X.mg (lrgN tp) = none) (he : PRg X a te) (na : starEach [a] X.env = (false, eval a X.env) :: starEach [] X.env) : PE X (.Call (.Name (lrgN tp) p) [a] [] pos) (tRgA tp te) := by
  cases tp with
  | true => exact pe_tupRg c.calm hg hm he na
  | false => exact pe_listRg c.calm hg hm he na
theorem rng_reps (i j : Int) {h : Hp} : Reps T Z L h ((List.range (j - i).toNat).map fun k => W.int (i + ((k : Nat) : Int))) (rgV i j) := by
  unfold rgV
  generalize (j - i).toNat = n
  have : ∀ l : List Nat, Reps T Z L h (l.map fun k => W.int (i + ((k : Nat) : Int))) (l.map fun k => V.int (i + (k : Nat))) := fun l => by
    induction l with
    | nil => exact .nil
    | cons x l ih => exact .cons (h1 := emp) .int ih (.emp _) (.refl _) (.emp _)
  exact this _
theorem lrg_end {tp : Bool} {σ : St} {s s2 : Sx} {t2 : Hp} {i j : Int} {env : Env} {Q : VK} {w : W} (k2 : Hs L s2) (p2 : Post s s2 t2) (e2 : EnvR T s2.Z emp s2.E env σ) (q : (rngW i j).map (fun ws => if tp then W.tup ws else .lst .own ws) = some w) (wn : Want T L σ s (.ok w env) Q E) :
    RgOk i j ∧ ∀ q, s2.H q = none → Q (.ref q) (upd s2.H q (if tp then .tup (rgV i j) else .lst (rgV i j))) := by
  obtain ⟨ws, hw, rfl⟩ := Option.map_eq_some_iff.mp q
  unfold rngW at hw
  split at hw
  · rename_i hc
    cases hw
    refine ⟨hc, fun a ha => ?_⟩
    have r : Reps T s2.Z L emp _ (rgV i j) := rng_reps i j
    cases tp with
    | true => exact new_tup (Q := Q) k2 r (fun v s3 t3 p3 e3 r3 => wn v s3 t3 (p2.trans p3) (by rw [e3]; exact e2.up p3.zz) r3) ha
    | false => exact new_list (w := .non) (Q := Q) k2 r (fun v s3 t3 p3 e3 r3 => wn v s3 t3 (p2.trans p3) (by rw [e3]; exact e2.up p3.zz) r3) ha
  · cases hw
theorem se_lrg1 {tp : Bool} {p2 q : Pos} {ia : IE} (c : Ctx X T) (hg : Gl X (lrgN tp)) (hm : X.mg (lrgN tp) = none) (hg2 : Gl X "range") (hm2 : X.mg "range" = none) (ha : SE X T E a (ev ρ ia)) (na : starEach [a] X.env = [(false, eval a X.env)]) :
    SE X T E (.Call (.Name (lrgN tp) p) [.Call (.Name "range" p2) [a] [] q] [] pos) (ev ρ (.lrg tp none ia)) := by
  obtain ⟨ta, pa, ha⟩ := ha
  refine ⟨_, pe_lrg c hg hm (prg_1 hg2 hm2 pa na) rfl, fun ro env σ s L Q k rr re w => ?_⟩
  rw [ev, evO, R.bind_ok] at w
  refine ha ro env σ s L _ k rr re (WantG.bind w (Post.refl k) fun y env2 v2 s2 t2 p2 e2 r2 w2 => ?_)
  obtain ⟨k2, _⟩ := k.post p2
  obtain ⟨z, hz, w3⟩ := want_opt w2
  unfold lrgF at hz
  split at hz
  · cases r2
    exact ⟨_, rfl, lrg_end k2 p2 e2 hz w3⟩
  · cases hz
theorem se_lrg2 {tp : Bool} {p2 q : Pos} {ia ib : IE} (c : Ctx X T) (hg : Gl X (lrgN tp)) (hm : X.mg (lrgN tp) = none) (hg2 : Gl X "range") (hm2 : X.mg "range" = none) (ha : SE X T E a (ev ρ ia)) (hb : SE X T E b (ev ρ ib)) (na : starEach [a, b] X.env = (false, eval a X.env) :: starEach [b] X.env) (nb : starEach [b] X.env = [(false, eval b X.env)])
    (hp : (backTo q (starEach [b] X.env)).any (·.1) = false) : SE X T E (.Call (.Name (lrgN tp) p) [.Call (.Name "range" p2) [a, b] [] q] [] pos) (ev ρ (.lrg tp (some ia) ib)) := by
  obtain ⟨ta, pa, ha⟩ := ha
  obtain ⟨tb, pb, hb⟩ := hb
  refine ⟨_, pe_lrg c hg hm (prg_2 hg2 hm2 pa pb na nb hp) rfl, fun ro env σ s L Q k rr re w => ?_⟩
  rw [ev, evO] at w
  cases hA : ev ρ ia ro env with
  | bad => rw [hA] at w; exact w.elim
  | ex c0 y env1 =>
    rw [hA] at w
    refine ha ro env σ s L _ k rr re ?_
    rw [hA]
    exact w
  | ok x env1 =>
    refine ha ro env σ s L _ k rr re ?_
    rw [hA]
    rw [hA] at w
    simp only [R.bind_ok] at w
    intro v1 s1 t1 p1 e1 r1
    obtain ⟨k1, _⟩ := k.post p1
    cases x with
    | int i =>
      cases r1
      simp only [R.bind_ok] at w
      refine hb ro env1 σ s1 L _ k1 (rr.up p1.zz) e1 (WantG.bind w p1 fun y env2 v2 s2 t2 p2 e2 r2 w2 => ?_)
      obtain ⟨k2, _⟩ := k1.post p2
      obtain ⟨z, hz, w3⟩ := want_opt w2
      unfold lrgF at hz
      split at hz
      · cases r2
        exact ⟨_, _, rfl, rfl, lrg_end k2 (p1.trans p2) e2 hz w3⟩
      · cases hz
    | _ => exact w.elim
end
end VL
set_option Elab.async false
set_option linter.all false
set_option maxRecDepth 100000
set_option maxHeartbeats 1000000
namespace VL
open PySem L2
/-! ## targets -/
mutual
def Tg.names : Tg → List Nat
  | .name i => [i]
  | .tup ts => tgNames ts
  | .fld _ _ _ => []
def tgNames : List Tg → List Nat
  | [] => []
  | t :: r => t.names ++ tgNames r
end
/-- the frames' slots agree but at some -/
structure Agree (ns : List Nat) (σ σ' : St) : Prop where
  len : σ'.length = σ.length
  at_ : ∀ i, i ∉ ns → σ'[i]? = σ[i]?
theorem Agree.refl (ns : List Nat) (σ : St) : Agree ns σ σ := ⟨rfl, fun _ _ => rfl⟩
theorem Agree.trans {ns : List Nat} {σ σ1 σ2 : St} (a : Agree ns σ σ1) (b : Agree ns σ1 σ2) : Agree ns σ σ2 := ⟨b.len.trans a.len, fun i h => (b.at_ i h).trans (a.at_ i h)⟩
theorem Agree.mono {ns ms : List Nat} {σ σ1 : St} (a : Agree ns σ σ1) (h : ∀ i ∈ ns, i ∈ ms) : Agree ms σ σ1 := ⟨a.len, fun i k => a.at_ i fun z => k (h i z)⟩
theorem asgTs_len (lk : List Nat) : ∀ (ts : List Tg) (ws : List W) (ro env : Env) {x : Env × Env}, asgTs lk ts ws ro env = some x → ws.length = ts.length
  | [], [], _, _, _, _ => rfl
  | [], _ :: _, _, _, _, h => by simp [asgTs] at h
  | _ :: _, [], _, _, _, h => by simp [asgTs] at h
  | t :: ts, w :: ws, ro, env, x, h => by
    rw [asgTs] at h
    split at h
    · simp [asgTs_len lk ts ws _ _ h]
    · cases h
section
variable {X : Cx} {T : Tb} {E : XK} {ρ : Nat → Fn} {e a b : Expr} {pos p : Pos}
/-- a target takes a value, held by t0; t' stands beside -/
def SG (X : Cx) (T : Tb) (tg : Expr) (t : Tg) : Prop := ∃ g, PG X tg g ∧ ∀ (lk : List Nat) (ro env ro' env' : Env) (σ : St) (s0 s : Sx) (L t0 t' : Hp) (w : W) (v : V) (Q : St → Hp → Prop), Hs L s0 → Post s0 s (join t0 t') → Dj t0 t' →
  EnvR T s.Z L emp ro σ → EnvR T s.Z emp s.E env σ → Rep T s.Z L t0 w v → asgT lk t w ro env = some (ro', env') →
  (∀ σ' s', Post s0 s' t' → Sub s.Z s'.Z → EnvR T s'.Z L emp ro' σ' → EnvR T s'.Z emp s'.E env' σ' → Agree t.names σ σ' → (∀ i ∈ lk, σ'[i]? = σ[i]?) → Q σ' s'.H) → g v σ s.H Q
def SGs (X : Cx) (T : Tb) (tgs : List Expr) (ts : List Tg) : Prop := ∃ g, PGs X tgs g ∧ ∀ (lk : List Nat) (ro env ro' env' : Env) (σ : St) (s0 s : Sx) (L t0 t' : Hp) (ws : List W) (vs : List V) (Q : St → Hp → Prop), Hs L s0 → Post s0 s (join t0 t') → Dj t0 t' →
  EnvR T s.Z L emp ro σ → EnvR T s.Z emp s.E env σ → Reps T s.Z L t0 ws vs → asgTs lk ts ws ro env = some (ro', env') →
  (∀ σ' s', Post s0 s' t' → Sub s.Z s'.Z → EnvR T s'.Z L emp ro' σ' → EnvR T s'.Z emp s'.E env' σ' → Agree (tgNames ts) σ σ' → (∀ i ∈ lk, σ'[i]? = σ[i]?) → Q σ' s'.H) → g vs σ s.H Q
theorem Post.take_in {s0 s : Sx} {t0 t' : Hp} (p : Post s0 s (join t0 t')) (d : Dj t0 t') : Dj t0 s.E ∧ Post s0 ⟨s.Z, join t0 s.E, s.H⟩ t' := by
  have e0 := p.et.subr (.joinl t0 t')
  have z0 := p.zt.subr (.joinl t0 t')
  refine ⟨e0.symm, p.zz, p.zh, ((Sub.joinl _ _).trans p.th).join p.eh, (Sub.joinr d).trans p.th, z0.joinr p.ze, p.zt.subr (.joinr d), d.joinl (p.et.subr (.joinr d)), fun h x y z => ?_⟩
  obtain ⟨a, b, c, e⟩ := p.fr h x y z
  exact ⟨a, b, (e.subr (.joinl _ _)).joinr c, e.subr (.joinr d)⟩
theorem set_agree {σ : St} {i : Nat} {x : Option V} : Agree [i] σ (σ.set i x) := ⟨by simp, fun j h => by rw [List.getElem?_set_ne (by simpa [eq_comm] using h)]⟩
theorem asgN_ok {lk : List Nat} {i : Nat} {w : W} {v : V} {ro env ro' env' : Env} {σ : St} {s0 s : Sx} {L t0 t' : Hp} {Q : Prop} (p : Post s0 s (join t0 t')) (d : Dj t0 t') (rr : EnvR T s.Z L emp ro σ) (re : EnvR T s.Z emp s.E env σ) (r : Rep T s.Z L t0 w v)
    (as : asgN lk i w ro env = some (ro', env')) (q : ∀ s', Post s0 s' t' → s'.Z = s.Z → s'.H = s.H → EnvR T s'.Z L emp ro' (σ.set i (some v)) → EnvR T s'.Z emp s'.E env' (σ.set i (some v)) → (∀ j ∈ lk, (σ.set i (some v))[j]? = σ[j]?) → Q) : Q := by
  unfold asgN at as
  split at as
  · cases as
  · rename_i hk
    have hk' : i ∉ lk := by simpa using hk
    have lkd : ∀ j ∈ lk, (σ.set i (some v))[j]? = σ[j]? := fun j hj => by
      rw [List.getElem?_set_ne]
      intro z; subst z; exact hk' hj
    split at as
    · split at as
      · cases as
      · rename_i ho
        cases as
        refine q s (p.less (.joinr d)) rfl rfl ?_ (re.drop i _) lkd
        by_cases hlen : i < ro.length
        · have := rr.put (i := i) (r.bare (by simpa using ho)) (.emp _) hlen
          exact this.wid ((Sub.emp _).join (.refl _))
        · rw [List.set_eq_of_length_le (by omega), List.set_eq_of_length_le (by rw [← rr.len]; omega)]
          exact rr
    · rename_i hn
      cases as
      obtain ⟨d0, p'⟩ := p.take_in d
      by_cases hlen : i < env.length
      · refine q ⟨s.Z, join t0 s.E, s.H⟩ p' rfl rfl (rr.drop i _) ?_ lkd
        exact re.put (r.keep (by simpa using hn)) d0 hlen
      · refine q s (p.less (.joinr d)) rfl rfl (rr.drop i _) ?_ lkd
        rw [List.set_eq_of_length_le (by omega), List.set_eq_of_length_le (by rw [← re.len]; omega)]
        exact re
theorem sg_name {i : Nat} {x : Str} (h : PG X (.Name x pos) (gName i)) : SG X T (.Name x pos) (.name i) := by
  refine ⟨_, h, fun lk ro env ro' env' σ s0 s L t0 t' w v Q k p d rr re r as q => ?_⟩
  rw [asgT] at as
  refine asgN_ok p d rr re r as fun s' p' z hH rr' re' lkd => ?_
  have := q (σ.set i (some v)) s' p' (by rw [z]; exact .refl _) rr' re' set_agree lkd
  rw [hH] at this
  exact this
theorem sgs_nil : SGs X T [] [] := by
  refine ⟨_, pgs_nil, fun lk ro env ro' env' σ s0 s L t0 t' ws vs Q k p d rr re r as q => ?_⟩
  cases r with
  | nil =>
    rw [asgTs] at as
    cases as
    exact ⟨rfl, q σ s (p.less (.joinr d)) (.refl _) rr re (.refl _ _) fun _ _ => rfl⟩
  | cons => simp [asgTs] at as
theorem sgs_cons {es : List Expr} {t : Tg} {ts : List Tg} (h : SG X T e t) (hs : SGs X T es ts) (he : (assignEach (e :: es) X.env).map (·.2) = assign e X.env :: (assignEach es X.env).map (·.2)) : SGs X T (e :: es) (t :: ts) := by
  obtain ⟨g, pg, h⟩ := h
  obtain ⟨gs, pgs, hs⟩ := hs
  refine ⟨_, pgs_cons pg pgs he, fun lk ro env ro' env' σ s0 s L t0 t' ws vs Q k p d rr re r as q => ?_⟩
  cases r with
  | nil => simp [asgTs] at as
  | cons r tl a b d12 =>
    rename_i t1 t2 w v ws vs
    rw [asgTs] at as
    split at as
    · rename_i ro1 env1 h1
      have d2 : Dj t2 t' := d.subl b
      have d1 : Dj t1 (join t2 t') := d12.joinr (d.subl a)
      have p1 : Post s0 s (join t1 (join t2 t')) := p.less ((a.trans (.joinl _ _)).join ((b.trans (.joinl _ _)).join (.joinr d)))
      refine ⟨v, vs, rfl, h lk ro env ro1 env1 σ s0 s L t1 (join t2 t') w v _ k p1 d1 rr re r h1 fun σ1 s1 p2 z1 rr1 re1 ag1 lk1 => ?_⟩
      refine hs lk ro1 env1 ro' env' σ1 s0 s1 L t2 t' ws vs Q k p2 d2 rr1 re1 (tl.up z1) as fun σ2 s2 p3 z2 rr2 re2 ag2 lk2 => ?_
      refine q σ2 s2 p3 (z1.trans z2) rr2 re2 ?_ fun i hi => (lk2 i hi).trans (lk1 i hi)
      exact (ag1.mono fun i hi => by rw [tgNames]; exact List.mem_append_left _ hi).trans (ag2.mono fun i hi => by rw [tgNames]; exact List.mem_append_right _ hi)
    · cases as
theorem sg_tup (c : Ctx X T) {es : List Expr} {kk : Nat} {ts : List Tg} (h : SGs X T es ts) (hn : (assignEach es X.env).length = ts.length) (hst : (assignEach es X.env).findIdx? (·.1) = none) : SG X T (.Tuple es kk pos) (.tup ts) := by
  obtain ⟨g, pg, h⟩ := h
  refine ⟨_, pg_tup c.calm pg hn hst, fun lk ro env ro' env' σ s0 s L t0 t' w v Q k p d rr re r as q => ?_⟩
  cases w with
  | tup ws =>
    rw [asgT] at as
    obtain ⟨a', vs, rfl, q1, r1, _⟩ := r.tup_inv p.zh
    have hl : vs.length = ts.length := by rw [← r1.length]; exact asgTs_len lk ts ws ro env as
    exact ⟨a', vs, rfl, by rw [c.kk]; exact q1, hl, h lk ro env ro' env' σ s0 s L t0 t' ws vs Q k p d rr re r1 as fun σ' s' x a b c d e => q σ' s' x a b c (by rw [Tg.names]; exact d) e⟩
  | _ => simp [asgT] at as
end
end VL
set_option Elab.async false
set_option linter.all false
set_option maxRecDepth 100000
set_option maxHeartbeats 1000000
namespace VL
open PySem L2
section
variable {X : Cx} {T : Tb} {E : XK} {ρ : Nat → Fn} {e a b : Expr} {pos p : Pos} {Z L : Hp}
/-! ## comprehensions -/
theorem EnvR.wipe0 : ∀ (vs : List Nat) {Z L h : Hp} {env : Env} {σ : St}, EnvR T Z L h env σ → EnvR T Z L h (wipeE env vs) σ
  | [], _, _, _, _, _, e => e
  | v :: vs, _, _, _, _, _, e => EnvR.wipe0 vs (e.drop' v)
theorem wipeE_keep : ∀ (vs : List Nat) (env : Env) (v : Nat) {w : W}, (wipeE env vs)[v]? = some (some w) → env[v]? = some (some w)
  | [], _, _, _, h => h
  | u :: vs, env, v, w, h => by
    have := wipeE_keep vs (env.set u none) v h
    by_cases e : u = v
    · subst e
      rw [List.getElem?_set_self'] at this
      cases q : env[u]? with
      | none => rw [q] at this; cases this
      | some o => rw [q] at this; cases this
    · rw [List.getElem?_set_ne e] at this; exact this
theorem wipeE_non : ∀ (vs : List Nat) (env : Env) (v : Nat) {w : W}, (wipeE env vs)[v]? = some (some w) → v ∉ vs
  | [], _, _, _, _ => by simp
  | u :: vs, env, v, w, h => by
    have h1 := wipeE_non vs (env.set u none) v h
    have h2 := wipeE_keep vs (env.set u none) v h
    rw [List.mem_cons, not_or]
    refine ⟨fun z => ?_, h1⟩
    subst z
    rw [List.getElem?_set_self'] at h2
    cases q : env[v]? with
    | none => rw [q] at h2; cases h2
    | some o => rw [q] at h2; cases h2
/-- slots without a value may stand beside anything -/
theorem EnvR.loose : ∀ {Z L h : Hp} {env : Env} {σ σ' : St}, EnvR T Z L h env σ → σ'.length = σ.length → (∀ i : Nat, (∃ w, env[i]? = some (some w)) → σ'[i]? = σ[i]?) → EnvR T Z L h env σ'
  | _, _, _, _, _, [], .nil, _, _ => .nil
  | _, _, _, _, _, _ :: _, .nil, l, _ => by simp at l
  | _, _, _, _, _, [], .non e, l, _ => by simp at l
  | _, _, _, _, _, y :: σ', .non e, l, q => .non (e.loose (by simpa using l) fun i hi => by
    have := q (i + 1) (by simpa using hi)
    simpa using this)
  | _, _, _, _, _, [], .som _ _ _ _ _, l, _ => by simp at l
  | _, _, _, _, _, y :: σ', .som r e a b d, l, q => by
    have h0 := q 0 ⟨_, rfl⟩
    simp only [List.getElem?_cons_zero, Option.some.injEq] at h0
    subst h0
    exact .som r (e.loose (by simpa using l) fun i hi => by
      have := q (i + 1) (by simpa using hi)
      simpa using this) a b d
theorem wipe_len (σ : St) (vs : List Nat) : (L2.wipe σ vs).length = σ.length := L2.wipe_length σ vs
theorem wipe_at : ∀ (vs : List Nat) (σ : St) (i : Nat), i ∉ vs → (L2.wipe σ vs)[i]? = σ[i]?
  | [], _, _, _ => rfl
  | v :: vs, σ, i, h => by
    unfold L2.wipe
    rw [List.getElem?_set_ne (by intro z; subst z; simp at h)]
    exact wipe_at vs σ i fun z => h (List.mem_cons_of_mem _ z)
theorem wipe_eq {σ σ' : St} {ns vs : List Nat} (a : Agree ns σ σ') (h : ∀ i ∈ ns, i ∈ vs) : L2.wipe σ' vs = L2.wipe σ vs := by
  apply List.ext_getElem?
  intro i
  by_cases hi : i ∈ vs
  · have f : ∀ (vs : List Nat) (τ : St), i ∈ vs → (L2.wipe τ vs)[i]? = if i < τ.length then some none else none := fun vs => by
      induction vs with
      | nil => intro τ h; simp at h
      | cons v vs ih =>
        intro τ h
        unfold L2.wipe
        by_cases e : v = i
        · subst e
          rw [List.getElem?_set_self']
          by_cases hl : v < τ.length
          · rw [if_pos hl]
            have : ∃ o, (L2.wipe τ vs)[v]? = some o := ⟨_, List.getElem?_eq_getElem (by rw [wipe_len]; exact hl)⟩
            obtain ⟨o, ho⟩ := this
            rw [ho]; rfl
          · rw [if_neg hl, List.getElem?_eq_none (by rw [wipe_len]; omega)]; rfl
        · rw [List.getElem?_set_ne e]
          exact ih τ (by simpa [Ne.symm e] using h)
    rw [f vs σ' hi, f vs σ hi, a.len]
  · rw [wipe_at vs σ' i hi, wipe_at vs σ i hi]
    exact a.at_ i fun z => hi (h i z)
/-- the frame of a comprehension's own slots, put back behind it -/
theorem EnvR.wipe (vs : List Nat) {Z L h : Hp} {env : Env} {σ : St} (e : EnvR T Z L h env σ) : EnvR T Z L h (wipeE env vs) (L2.wipe σ vs) :=
  (EnvR.wipe0 vs e).loose (wipe_len σ vs) fun i ⟨w, hw⟩ => wipe_at vs σ i (wipeE_non vs env i hw)
theorem backE_ok : ∀ (xs : List Nat) {env : Env} {σ : St} {Z E : Hp}, EnvR T Z emp E env σ →
    ∃ l E', Sub l E ∧ Sub E' E ∧ Dj l E' ∧ EnvR T Z emp E' (wipeE env xs) σ ∧ ∀ (env2 : Env) (Z2 E2 : Hp), Sub Z Z2 → Dj l E2 → EnvR T Z2 emp E2 env2 σ → EnvR T Z2 emp (join l E2) (backE env env2 xs) σ
  | [], env, σ, Z, E, re => ⟨emp, E, .emp _, .refl _, .emp _, re, fun env2 Z2 E2 z d e => e.wid (.joinr (.emp _))⟩
  | x :: xs, env, σ, Z, E, re => by
    unfold wipeE backE
    split
    · rename_i w hx
      obtain ⟨v, h1, h2, hv, r, e2, s1, s2, d⟩ := re.take hx
      obtain ⟨l, E', a1, a2, a3, a5, a7⟩ := backE_ok xs e2
      refine ⟨VL.join h1 l, E', s1.join (a1.trans s2), a2.trans s2, (d.subr a2).joinl a3, a5, fun env2 Z2 E2 z dj e => ?_⟩
      have d1 : Dj h1 E2 := dj.subl (.joinl _ _)
      have d2 : Dj l E2 := dj.subl (.joinr (d.subr a1))
      have d3 : Dj l h1 := (d.subr a1).symm
      have q := e.put' (r.up z) d1 hv
      have q2 := a7 (env2.set x (some w)) Z2 (VL.join h1 E2) z (d3.joinr d2) q
      exact q2.wid (((Sub.joinr d3.symm).trans (.joinl _ _)).join (((Sub.joinl h1 l).trans (.joinl _ _)).join (.joinr dj)))
    · exact backE_ok xs (re.drop' x)
theorem Ctx.blk (c : Ctx X T) (s : Shared) (H : Hp) (sc : Scope) (ce : PySem.Env) (fp : List Addr) : Ctx (X.blk s H sc ce fp) T := ⟨c.kk, c.calm, c.nd, c.un, c.un2, c.ga, c.fld⟩
def SC (X : Cx) (T : Tb) (E : XK) (es : List Expr) (f : Env → Env → R Bool) : Prop := ∃ t, PTs X es t ∧ ∀ (ro env : Env) (σ : St) (s : Sx) (L : Hp) (Q : Bool → Hp → Prop), Hs L s → EnvR T s.Z L emp ro σ → EnvR T s.Z emp s.E env σ →
  WantG (fun _ _ a b => a = b) T σ s (f ro env) Q E → t σ s.H Q
theorem sc_nil : SC X T E [] (evTand ρ []) := ⟨_, pts_nil, fun ro env σ s L Q k rr re w => by
  rw [evTand] at w
  exact w _ s emp (Post.refl k) re rfl⟩
theorem sc_one {i : IT} (h : ST X T E a (evT ρ i)) : SC X T E [a] (evTand ρ [i]) := by
  obtain ⟨t, pt, h⟩ := h
  refine ⟨t, pts_one pt, fun ro env σ s L Q k rr re w => h ro env σ s L Q k rr re ?_⟩
  rw [evTand] at w
  simp only [evTand] at w
  exact want_true w
abbrev X0 : XK := fun _ _ _ => False
end
end VL
set_option Elab.async false
set_option linter.all false
set_option maxRecDepth 100000
set_option maxHeartbeats 2000000
namespace VL
open PySem L2
/-! ## readings that hang on no context -/
def tOf (T : Tb) (E : XK) (f : FE) : TE := fun σ H Q => ∃ ro env s L, s.H = H ∧ Hs L s ∧ EnvR T s.Z L emp ro σ ∧ EnvR T s.Z emp s.E env σ ∧ Want T L σ s (f ro env) Q E
def bOf (T : Tb) (E : XK) (f : Env → Env → R Bool) : TT := fun σ H Q => ∃ ro env s L, s.H = H ∧ Hs L s ∧ EnvR T s.Z L emp ro σ ∧ EnvR T s.Z emp s.E env σ ∧ WantG (fun _ _ a b => a = b) T σ s (f ro env) Q E
def gOf (T : Tb) (t : Tg) : TG := fun v σ H Q => ∃ (lk : List Nat) (ro env ro' env' : Env) (s0 s : Sx) (L t0 t' : Hp) (w : W), s.H = H ∧ Hs L s0 ∧ Post s0 s (join t0 t') ∧ Dj t0 t' ∧
  EnvR T s.Z L emp ro σ ∧ EnvR T s.Z emp s.E env σ ∧ Rep T s.Z L t0 w v ∧ asgT lk t w ro env = some (ro', env') ∧
  ∀ σ' s', Post s0 s' t' → Sub s.Z s'.Z → EnvR T s'.Z L emp ro' σ' → EnvR T s'.Z emp s'.E env' σ' → Agree t.names σ σ' → (∀ i ∈ lk, σ'[i]? = σ[i]?) → Q σ' s'.H
section
variable {X : Cx} {T : Tb} {E : XK} {ρ : Nat → Fn} {e a b : Expr} {pos p : Pos} {Z L : Hp}
theorem SE.pe {f : FE} (h : SE X T E e f) : PE X e (tOf T E f) := by
  obtain ⟨t, pe, h⟩ := h
  exact ⟨fun pins st σ H Q I ⟨ro, env, s, L, hs, k, rr, re, w⟩ => pe.run pins st σ H Q I (by subst hs; exact h ro env σ s L Q k rr re w)⟩
theorem SC.pts {es : List Expr} {f : Env → Env → R Bool} (h : SC X T E es f) : PTs X es (bOf T E f) := by
  obtain ⟨t, pe, h⟩ := h
  exact ⟨fun pins st σ H Q I ⟨ro, env, s, L, hs, k, rr, re, w⟩ => pe.run pins st σ H Q I (by subst hs; exact h ro env σ s L Q k rr re w)⟩
theorem SG.pg {t : Tg} (h : SG X T e t) : PG X e (gOf T t) := by
  obtain ⟨g, pe, h⟩ := h
  exact ⟨fun pins st σ H v u Q I r ⟨lk, ro, env, ro', env', s0, s, L, t0, t', w, hs, k, p, d, rr, re, rp, as, q⟩ => pe.run pins st σ H v u Q I r (by subst hs; exact h lk ro env ro' env' σ s0 s L t0 t' w v Q k p d rr re rp as q)⟩
theorem reps_snoc : ∀ {Z L ta t : Hp} {acc : List W} {accV : List V} {w : W} {v : V}, Reps T Z L ta acc accV → Rep T Z L t w v → Dj ta t → Reps T Z L (join ta t) (acc ++ [w]) (accV ++ [v])
  | _, _, _, _, _, _, _, _, .nil, r, d => .cons (h2 := emp) r .nil (.joinr d) (.emp _) (.emp' _)
  | _, _, ta, t, _, _, _, _, .cons (h1 := k1) (h2 := k2) r0 t0 a b d0, r, d => .cons r0 (reps_snoc t0 r (d.subl b)) (a.trans (.joinl _ _)) ((b.trans (.joinl _ _)).join (.joinr d)) (d0.joinr (d.subl a))
theorem Post.widen {s s' : Sx} {t : Hp} {D : Addr} {o : HO} (p : Post s s' t) (h0 : s.H D = none) (h1 : s'.H D = some o) (hz : s'.Z D = none) (he : s'.E D = none) (ht : t D = none) : Post s s' (join t (one D o)) :=
  ⟨p.zz, p.zh, p.eh, p.th.join (Sub.one h1), p.ze, p.zt.joinr (Dj.one hz).symm, p.et.joinr (Dj.one he).symm, fun h x y z => by
    obtain ⟨a, b, c, d⟩ := p.fr h x y z
    exact ⟨a, b, c, d.joinr (Dj.one (x.none h0)).symm⟩⟩
/-- a thing beside that all else leaves alone, changed -/
theorem Post.poke {s s' : Sx} {t : Hp} {D : Addr} {o : HO} (p : Post s s' t) (h0 : s.H D = none) (hz : s'.Z D = none) (he : s'.E D = none) (ht : t D = none) : Post s ⟨s'.Z, s'.E, upd s'.H D o⟩ t :=
  ⟨p.zz, p.zh.upd hz, p.eh.upd he, p.th.upd ht, p.ze, p.zt, p.et, fun h x y z => by
    obtain ⟨a, b, c, d⟩ := p.fr h x y z
    exact ⟨a.upd (x.none h0), b, c, d⟩⟩
theorem Dj.none {h : Hp} {D : Addr} {o : HO} (d : Dj (VL.one D o) h) : h D = Option.none := d.at one_at
theorem comp_reads {own : List (Str × Nat)} {it : It} {tgw : Tg} {is : List IT} {ie : IE} {wi : TI}
    (hi : ∀ (ro env : Env) (σ : St) (s : Sx) (L : Hp) (Q : L2.It → Hp → Prop), Hs L s → EnvR T s.Z L emp ro σ → EnvR T s.Z emp s.E env σ → WantG (fun Z t items J => Gives T L J items Z t) T σ s (evIt ρ it ro env) Q E → wi σ s.H Q)
    (hn : ∀ i ∈ tgw.names, i ∈ own.map (·.2)) (ro env : Env) (σ : St) (s : Sx) (L : Hp) (Q : VK) (k : Hs L s) (rr : EnvR T s.Z L emp ro σ) (re : EnvR T s.Z emp s.E env σ)
    (w : Want T L σ s (ev ρ (.comp (own.map (·.2)) it tgw is ie) ro env) Q E) :
    tLc wi (gOf T tgw) (bOf T X0 (evTand ρ is)) (tOf T X0 (ev ρ ie)) (own.map (·.2)) σ s.H Q := by
  generalize hvs : own.map (·.2) = vs at *
  rw [ev] at w
  refine hi ro env σ s L _ k rr re (WantG.bind w (Post.refl k) fun items env1 J s1 t1 p1 e1 gv w1 => ?_)
  obtain ⟨k1, d1⟩ := k.post p1
  intro D hD
  obtain ⟨l, E', a1, a2, a3, a5, a7⟩ := backE_ok vs e1
  generalize hstep : (fun (x : W) (env2 : Env) => match asgT [] tgw x (wipeE ro vs) env2 with
        | some (ro3, env3) => (evTand ρ is ro3 env3).bind fun k env4 => if k then (ev ρ ie ro3 env4).bind fun w env5 => .ok (some w) (wipeE env5 vs) else .ok none (wipeE env4 vs)
        | none => (.bad : R (Option W))) = step at w1
  cases hr : compLoop step items [] (wipeE env1 vs) with
  | bad => rw [hr] at w1; exact w1.elim
  | ex _ _ _ => rw [hr] at w1; exact w1.elim
  | ok ws env6 =>
    rw [hr] at w1
    simp only [noEx, R.bind_ok] at w1
    let sb : Sx := ⟨s1.Z, E', s1.H⟩
    have kb : Hs L sb := ⟨k1.zh, a2.trans k1.eh, k1.lh, k1.ze.subr a2, k1.zl, k1.el.subr a2⟩
    have pb0 : Post sb ⟨s1.Z, E', upd s1.H D (.lst [])⟩ emp := (Post.newT kb hD (o := .lst [])).bare
    refine ⟨fun i m H => ∃ (si : Sx) (ta : Hp) (acc : List W) (accV : List V) (env0 : Env), m = items.length - i ∧ i ≤ items.length ∧ si.H = H ∧ Post sb si ta ∧ EnvR T si.Z emp si.E (wipeE env0 vs) σ ∧ Reps T si.Z L ta acc accV ∧
      H D = some (.lst accV) ∧ si.Z D = none ∧ si.E D = none ∧ ta D = none ∧ compLoop step (items.drop i) acc (wipeE env0 vs) = .ok ws env6,
      ⟨items.length, ⟨s1.Z, E', upd s1.H D (.lst [])⟩, emp, [], [], env1, by simp, Nat.zero_le _, rfl, pb0, a5, .nil, upd_same, k1.zh.none hD, (a2.trans k1.eh).none hD, rfl, hr⟩, ?_⟩
    rintro i m H ⟨si, ta, acc, accV, env0, rfl, hile, rfl, pi', ei, ra, hd, dz, de, dt, hc⟩
    obtain ⟨ki, _⟩ := kb.post pi'
    have ft1 := pi'.fr t1 p1.th p1.zt.symm (p1.et.symm.subr a2)
    obtain ⟨g1, g2⟩ := gv si ki pi'.zz ft1.1 i
    by_cases hlt : i < items.length
    · obtain ⟨w0, hw0⟩ : ∃ w0, items[i]? = some w0 := ⟨_, List.getElem?_eq_getElem hlt⟩
      obtain ⟨go, yl⟩ := g2 w0 hw0
      have hdrop : items.drop i = w0 :: items.drop (i + 1) := by
        have := List.getElem?_eq_some_iff.mp hw0
        obtain ⟨_, rfl⟩ := this
        rw [List.drop_eq_getElem_cons hlt]
      rw [hdrop, compLoop] at hc
      refine .inr ⟨go, fun H' => ∃ (si : Sx) (ta : Hp) (acc : List W) (accV : List V) (env0 : Env), si.H = H' ∧ Post sb si ta ∧ EnvR T si.Z emp si.E (wipeE env0 vs) σ ∧ Reps T si.Z L ta acc accV ∧
        H' D = some (.lst accV) ∧ si.Z D = none ∧ si.E D = none ∧ ta D = none ∧ compLoop step (items.drop (i + 1)) acc (wipeE env0 vs) = .ok ws env6, fun H' ⟨si, ta, acc, accV, env0, h1, h2, h3, h4, h5, h6, h7, h8, h9⟩ => ⟨items.length - (i + 1), by omega, si, ta, acc, accV, env0, rfl, hlt, h1, h2, h3, h4, h5, h6, h7, h8, h9⟩, fun x H' y => ?_⟩
      obtain ⟨s2, rfl, p2, e2, r2⟩ := yl x H' y
      obtain ⟨k2, _⟩ := ki.post p2
      have oneD : Sub (one D (.lst accV)) si.H := Sub.one hd
      have f2 := p2.fr (one D (.lst accV)) oneD (Dj.one dz) (Dj.one de)
      have zz2 : Sub s1.Z s2.Z := pi'.zz.trans p2.zz
      have rrw : EnvR T s2.Z L emp (wipeE ro vs) (L2.wipe σ vs) := ((rr.up p1.zz).up zz2).wipe vs
      have rew : EnvR T s2.Z emp s2.E (wipeE env0 vs) (L2.wipe σ vs) := by
        rw [e2]
        exact (ei.up p2.zz).loose (wipe_len σ vs) fun j ⟨w, hw⟩ => wipe_at vs σ j (wipeE_non vs env0 j hw)
      have agw : Agree vs σ (L2.wipe σ vs) := ⟨wipe_len σ vs, fun j hj => wipe_at vs σ j hj⟩
      rw [← hstep] at hc
      dsimp only at hc
      cases has : asgT [] tgw w0 (wipeE ro vs) (wipeE env0 vs) with
      | none => rw [has] at hc; cases hc
      | some pr =>
        obtain ⟨ro3, env3⟩ := pr
        rw [has] at hc
        dsimp only at hc
        have p2e : Post si s2 (join emp emp) := p2.less ((Sub.emp _).join (.emp _))
        refine ⟨[], wipeE ro vs, wipeE env0 vs, ro3, env3, si, s2, L, emp, emp, w0, rfl, ki, p2e, .emp _, rrw, rew, r2, has, fun σ2 s3 p3 z3 rr3 re3 ag _ => ?_⟩
        have ag2 : Agree vs σ σ2 := agw.trans (ag.mono hn)
        refine ⟨wipe_eq ag2 fun _ h => h, ?_⟩
        obtain ⟨k3, _⟩ := ki.post p3
        cases hT : evTand ρ is ro3 env3 with
        | bad => rw [hT] at hc; cases hc
        | ex _ _ _ => rw [hT] at hc; cases hc
        | ok kk env4 =>
          rw [hT] at hc
          simp only [R.bind_ok] at hc
          refine ⟨ro3, env3, s3, L, rfl, k3, rr3, re3, ?_⟩
          rw [hT]
          intro b s4 t4 p4 e4 hb
          subst hb
          obtain ⟨k4, _⟩ := k3.post p4
          have p34 := p3.trans p4
          have f4 := p34.fr (one D (.lst accV)) oneD (Dj.one dz) (Dj.one de)
          cases kk with
          | true =>
            simp only [if_true] at hc ⊢
            cases hV : ev ρ ie ro3 env4 with
            | bad => rw [hV] at hc; cases hc
            | ex _ _ _ => rw [hV] at hc; cases hc
            | ok y5 env5 =>
              rw [hV] at hc
              simp only [R.bind_ok] at hc
              split at hc
              · rename_i hsz
                rw [hstep] at hc
                refine ⟨ro3, env4, s4, L, rfl, k4, rr3.up p4.zz, e4, ?_⟩
                rw [hV]
                intro v5 s5 t5 p5 e5 r5
                have p35 := p34.trans p5
                have f5 := p35.fr (one D (.lst accV)) oneD (Dj.one dz) (Dj.one de)
                have fta := pi'.with p35
                have ag' : EnvR T s5.Z emp s5.E (wipeE env5 vs) σ := (EnvR.wipe0 vs e5).loose ag2.len.symm fun j ⟨w, hw⟩ => (ag2.at_ j (wipeE_non vs env5 j hw)).symm
                have t5D : t5 D = none := f5.2.2.2.none
                have taD : ta D = none := dt
                refine ⟨accV, f5.1 _ _ one_at, by rw [← ra.length, ← sz_eq]; exact hsz, ⟨s5.Z, s5.E, upd s5.H D (.lst (accV ++ [v5]))⟩, join ta t5, acc ++ [y5], accV ++ [v5], env5, rfl, ?_, ag', ?_, upd_same, f5.2.1.none, f5.2.2.1.none, ?_, hc⟩
                · exact (pi'.both p35).poke hD f5.2.1.none f5.2.2.1.none (by unfold join; rw [taD, t5D]; rfl)
                · exact reps_snoc (ra.up p35.zz) r5 fta.2.2.2
                · unfold join; rw [taD, t5D]; rfl
              · cases hc
          | false =>
            simp only [Bool.false_eq_true, if_false, R.bind_ok] at hc ⊢
            rw [hstep] at hc
            have ag' : EnvR T s4.Z emp s4.E (wipeE env4 vs) σ := (EnvR.wipe0 vs e4).loose ag2.len.symm fun j ⟨w, hw⟩ => (ag2.at_ j (wipeE_non vs env4 j hw)).symm
            have fta := pi'.with p34
            refine ⟨s4, ta, acc, accV, env4, rfl, ?_, ag', ra.up p34.zz, f4.1 _ _ one_at, f4.2.1.none, f4.2.2.1.none, dt, hc⟩
            exact (pi'.both p34).less (.joinl _ _)
    · have hi' : items.length ≤ i := by omega
      rw [List.drop_eq_nil_of_le hi', compLoop] at hc
      cases hc
      refine .inl ⟨g1 hi', ?_⟩
      have pu : Post s1 ⟨si.Z, join l si.E, si.H⟩ ta := pi'.unlend k1.eh k1.ze a1 a2 a3
      have lD : l D = none := (a1.trans k1.eh).none hD
      have pw := p1.trans (pu.widen hD hd dz (by show (l D).or (si.E D) = Option.none; rw [lD, de]; rfl) dt)
      refine w1 (.ref D) ⟨si.Z, join l si.E, si.H⟩ _ pw (a7 _ _ _ pi'.zz (Dj.fr k1.eh k1.ze a1 a3 pi') ei) ?_
      exact .lst (m := .own) (hc := ta) (Sub.joinr (Dj.one dt).symm _ _ one_at) ⟨.joinl _ _, fun z => absurd rfl z⟩ dt ra
theorem se_comp {elt tg iter : Expr} {ifs : List Expr} {scope : Scope} {own : List (Str × Nat)} {it : It} {tgw : Tg} {is : List IT} {ie : IE} (c : Ctx X T) (ok : BlkOk X.N X.env.scope scope own) (hi : SI X T E tg iter (evIt ρ it))
    (hg : ∀ (s : Shared) (H : Hp) (C : Addr) (cl : List (Str × Addr)) (fp : List Addr), SG (X.blk s H scope (compEnvC scope cl C X.env) fp) T tg tgw)
    (ht : ∀ (s : Shared) (H : Hp) (C : Addr) (cl : List (Str × Addr)) (fp : List Addr), SC (X.blk s H scope (compEnvC scope cl C X.env) fp) T X0 ifs (evTand ρ is))
    (he : ∀ (s : Shared) (H : Hp) (C : Addr) (cl : List (Str × Addr)) (fp : List Addr), SE (X.blk s H scope (compEnvC scope cl C X.env) fp) T X0 elt (ev ρ ie))
    (hs : ∀ x, foldedSetIterable iter X.env x = pure x) (hn : ∀ i ∈ tgw.names, i ∈ own.map (·.2)) :
    SE X T E (.ListComp elt [⟨tg, iter, ifs, 0⟩] scope pos) (ev ρ (.comp (own.map (·.2)) it tgw is ie)) := by
  obtain ⟨wi, pi, hi⟩ := hi
  exact ⟨_, pe_lc c.calm c.nd pi ok (fun s H C cl fp => (hg s H C cl fp).pg) (fun s H C cl fp => (ht s H C cl fp).pts) (fun s H C cl fp => (he s H C cl fp).pe) hs, comp_reads hi hn⟩
end
end VL
set_option Elab.async false
set_option linter.all false
set_option maxRecDepth 100000
set_option maxHeartbeats 2000000
namespace VL
open PySem L2
section
variable {X : Cx} {T : Tb} {E : XK} {ρ : Nat → Fn} {e a b : Expr} {es : List Expr} {pos p apos cpos : Pos} {Z L : Hp}
theorem bindE_some {α β : Type} {a : α} {k : α → R β} : bindE (some a) k = k a := rfl
/-! ## {} -/
theorem se_dct0 : SE X T E (.Dict [] [] pos) (ev ρ .dct0) := ⟨_, pe_dnewK, fun ro env σ s L Q k rr re w => fun p hp => by
  rw [ev] at w
  exact new_dct (kvs := []) (vs := []) k rfl List.nodup_nil .nil (fun v s' t pp ee r => w v s' t pp (by rw [ee]; exact re.up pp.zz) r) hp⟩
/-! ## displays with stars -/
def SD (X : Cx) (T : Tb) (E : XK) (es : List Expr) (f : FA) : Prop := SA X T E es f
theorem sd_nil : SD X T E [] (evD ρ [] []) := ⟨_, pa_nil, fun ro env σ s L Q k rr re w => by
  rw [evD] at w
  exact w [] s emp (Post.refl k) re .nil⟩
theorem reps_cat : ∀ {t1 t2 : Hp} {us ws : List W} {xs ys : List V} {L : Hp}, Reps T Z L t1 us xs → Reps T Z L t2 ws ys → Dj t1 t2 → Reps T Z L (join t1 t2) (us ++ ws) (xs ++ ys)
  | _, _, _, _, _, _, _, .nil, t, d => t.wid (.joinr d)
  | _, _, _, _, _, _, _, .cons r0 t0 a b d0, r, d => .cons r0 (reps_cat t0 r (d.subl b)) (a.trans (.joinl _ _)) ((b.trans (.joinl _ _)).join (.joinr d)) (d0.joinr (d.subl a))
theorem sd_one {i : IE} {is : List IE} {st : List Bool} (h : SE X T E e (ev ρ i)) (hs : SD X T E es (evD ρ st is)) (hst : starEach (e :: es) X.env = (false, eval e X.env) :: starEach es X.env) : SD X T E (e :: es) (evD ρ (false :: st) (i :: is)) := by
  obtain ⟨t, pe, h⟩ := h
  obtain ⟨ts, ps, hs⟩ := hs
  refine ⟨_, pa_cons pe ps hst, fun ro env σ s L Q k rr re w => ?_⟩
  rw [evD] at w
  refine h ro env σ s L _ k rr re (WantG.bind w (Post.refl k) fun x env1 v1 s1 t1 p1 e1 r1 w1 => ?_)
  obtain ⟨k1, d1⟩ := k.post p1
  have w1 : Wants T L σ s ((evD ρ st is ro env1).bind fun ws env2 => .ok ([x] ++ ws) env2) Q E := w1
  refine hs ro env1 σ s1 L _ k1 (rr.up p1.zz) e1 (WantG.bind w1 p1 fun ws env2 vs s2 t2 p2 e2 r2 w2 => ?_)
  obtain ⟨a1, a2, a3, a4⟩ := p1.with p2
  exact w2 (v1 :: vs) s2 (join t1 t2) (p1.both p2) e2 (.cons (r1.up p2.zz) r2 (.joinl _ _) (.joinr a4) a4)
theorem sq_rep {g : Hp} {w : W} {ws : List W} {v : V} {H : Hp} (e : w.sq? = some ws) (m : hasL Fl.isMut ws = false) (r : Rep T Z L g w v) (z : Sub Z H) (l : Sub L H) (gg : Sub g H) :
    ∃ a vs, v = .ref a ∧ (SqT T.K H a vs ∨ SqL T.K H a vs) ∧ Reps T Z L emp ws vs := by
  cases w <;> simp [W.sq?] at e
  · subst e
    obtain ⟨a, vs, rfl, q1, r1, _⟩ := r.tup_inv z
    exact ⟨a, vs, rfl, .inl q1, r1.pure m L⟩
  · subst e
    obtain ⟨a, vs, hc, rfl, q1, r1, b1, _⟩ := r.lst_inv z l gg
    exact ⟨a, vs, rfl, .inr (.inl q1), r1.pure m L⟩
theorem sd_star {i : IE} {is : List IE} {st : List Bool} (c : Ctx X T) (h : SE X T E e (ev ρ i)) (hs : SD X T E es (evD ρ st is)) : SD X T E (.Starred e p :: es) (evD ρ (true :: st) (i :: is)) := by
  obtain ⟨t, pe, h⟩ := h
  obtain ⟨ts, ps, hs⟩ := hs
  refine ⟨_, StX.pa_star pe ps, fun ro env σ s L Q k rr re w => ?_⟩
  rw [evD] at w
  refine h ro env σ s L _ k rr re (WantG.bind w (Post.refl k) fun x env1 v1 s1 t1 p1 e1 r1 w1 => ?_)
  obtain ⟨k1, d1⟩ := k.post p1
  unfold starW bindE at w1
  simp only [if_true] at w1
  split at w1
  · rename_i us hu
    obtain ⟨us', hq, hu⟩ := Option.bind_eq_some_iff.mp hu
    obtain ⟨e0, rfl⟩ := opt_some hu
    obtain ⟨a, vs, rfl, q1, rp⟩ := sq_rep hq (by simpa using e0) r1 p1.zh k1.lh p1.th
    refine ⟨a, vs, rfl, by rw [c.kk]; exact q1, ?_⟩
    refine hs ro env1 σ s1 L _ k1 (rr.up p1.zz) e1 (WantG.bind w1 p1 fun ws env2 vs2 s2 t2 p2 e2 r2 w2 => ?_)
    obtain ⟨a1, a2, a3, a4⟩ := p1.with p2
    exact w2 (vs ++ vs2) s2 (join t1 t2) (p1.both p2) e2 ((reps_cat (rp.up p2.zz) r2 (Dj.emp _)).wid ((Sub.emp _).join (.joinr a4)))
  · exact w1.elim
theorem se_disp {tp : Bool} {is : List IE} {st : List Bool} {kk : Nat} (h : SD X T E es (evD ρ st is)) : SE X T E (if tp then .Tuple es kk pos else .List es pos) (ev ρ (.disp tp st is)) := by
  obtain ⟨t, pe, h⟩ := h
  cases tp with
  | true =>
    refine ⟨_, pe_tup pe, fun ro env σ s L Q k rr re w => ?_⟩
    rw [ev] at w
    refine h ro env σ s L _ k rr re (WantG.bind w (Post.refl k) fun ws env1 vs s1 t1 p1 e1 r1 w1 => ?_)
    obtain ⟨k1, d1⟩ := k.post p1
    split at w1
    · rename_i hz
      refine ⟨by rw [← r1.length, ← sz_eq]; exact hz, fun p hp => ?_⟩
      have pn := Post.newZ k1 hp (o := .tup vs)
      exact w1 (.ref p) _ t1 ((p1.both pn).less (.joinl t1 emp)) (e1.up pn.zz) (.tup (SqT.of upd_same) (r1.up pn.zz))
    · exact w1.elim
  | false =>
    refine ⟨_, pe_lst pe, fun ro env σ s L Q k rr re w => ?_⟩
    rw [ev] at w
    refine h ro env σ s L _ k rr re (WantG.bind w (Post.refl k) fun ws env1 vs s1 t1 p1 e1 r1 w1 => ?_)
    obtain ⟨k1, d1⟩ := k.post p1
    split at w1
    · rename_i hz
      refine ⟨by rw [← r1.length, ← sz_eq]; exact hz, fun p hp => ?_⟩
      have pn := Post.newT k1 hp (o := .lst vs)
      have t1p : t1 p = none := p1.th.none hp
      have dj : Dj t1 (one p (.lst vs)) := (Dj.one t1p).symm
      exact w1 (.ref p) _ (join t1 (one p (.lst vs))) (p1.both pn) (e1.up pn.zz) (.lst (m := .own) (hc := t1) (Sub.joinr dj _ _ one_at) ⟨.joinl _ _, fun z => absurd rfl z⟩ t1p (r1.up pn.zz))
    · exact w1.elim
/-! ## methods that change nothing -/
def OpMt (T : Tb) (r : V → List V → Hp → VK → Prop) (F : W → List W → Option W) : Prop := ∀ (L : Hp) (s : Sx) (t1 t2 : Hp) (w1 w : W) (ws : List W) (v : V) (vs : List V) (Q : VK), Hs L s → Sub t1 s.H → Sub t2 s.H → Rep T s.Z L t1 w1 v → Reps T s.Z L t2 ws vs → F w1 ws = some w →
  (∀ v s' t, Post s s' t → s'.E = s.E → Rep T s'.Z L t w v → Q v s'.H) → (∀ v h, (Sub h t1 ∨ Sub h t2) → Rep T s.Z L h w v → Q v s.H) → r v vs s.H Q
theorem reps_strs : ∀ {h : Hp} (ns : List Str), Reps T Z L h (ns.map W.str) (ns.map V.str)
  | _, [] => .nil
  | _, n :: r => .cons (h1 := emp) (h2 := emp) .str (reps_strs r) (.emp _) (.emp _) (.emp _)
theorem Reps.strs : ∀ {h : Hp} {ws : List W} {vs : List V} {ns : List Str}, Reps T Z L h ws vs → strsOf ws = some ns → vs = ns.map V.str
  | _, _, _, _, .nil, e => by cases (show some [] = some _ from e); rfl
  | _, _, _, ns, .cons (w := w) r t a b d, e => by
    unfold strsOf at e
    split at e <;> try (cases e; done)
    all_goals rename_i heq <;> try (cases heq; done)
    cases heq
    obtain ⟨r0, h0, rfl⟩ := Option.map_eq_some_iff.mp e
    cases r
    rw [t.strs h0]; rfl
def rSplit : V → List V → Hp → VK → Prop := fun x xs H Q => ∃ a b, x = .str a ∧ xs = [.str b] ∧ (b.length == 0) = false ∧ a.length + 2 ≤ sizeLine ∧ ∀ p, H p = none → Q (.ref p) (upd H p (.lst ((Txt.split a b).map V.str)))
def rJoin (K : PySem.W.Frag) : V → List V → Hp → VK → Prop := fun x xs H Q => ∃ a p, ∃ ys : List Str, x = .str a ∧ xs = [.ref p] ∧ (SqL K H p (ys.map V.str) ∨ SqT K H p (ys.map V.str)) ∧ (ys.map (·.length)).sum + ys.length * a.length ≤ 16777216 ∧ Q (.str (Txt.join a ys)) H
def rPart : V → List V → Hp → VK → Prop := fun x xs H Q => ∃ a b, x = .str a ∧ xs = [.str b] ∧ (b.length == 0) = false ∧ a.length ≤ sizeLine ∧ ∀ p, H p = none → Q (.ref p) (upd H p (.tup [.str (Txt.partition a b).1, .str (Txt.partition a b).2.1, .str (Txt.partition a b).2.2]))
def rGet : V → List V → Hp → VK → Prop := fun x xs H Q => (∃ a y o, x = .ref a ∧ xs = [y] ∧ DGet H a y o ∧ Q (o.getD .non) H) ∨ ∃ a y z o, x = .ref a ∧ xs = [y, z] ∧ DGet H a y o ∧ Q (o.getD z) H
theorem mt_get (hu : X.A.units + 1 < cLine) : MtR X "dict.get" rGet := fun pins s σ H x xs v us Q I rx rv h => by
  rcases h with ⟨a, y, o, rfl, rfl, g, q⟩ | ⟨a, y, z, o, rfl, rfl, g, q⟩
  · cases rx
    obtain ⟨u, rfl, ru⟩ := vals1 rv
    exact d_get1 hu I g ru fun w' s3 I3 rw' => ⟨_, H, I3, rw', q⟩
  · cases rx
    cases rv with
    | cons r1 rv =>
      obtain ⟨u, rfl, ru⟩ := vals1 rv
      exact d_get2 hu I g r1 ru fun w' s3 I3 rw' => ⟨_, H, I3, rw', q⟩
def Mtd.ty : Mtd → String | .split => "str" | .join => "str" | .index => "list" | .partition => "str" | .get => "dict"
def Mtd.name : Mtd → Str | .split => "split" | .join => "join" | .index => "index" | .partition => "partition" | .get => "get"
def Mtd.id : Mtd → String | .split => "str.split" | .join => "str.join" | .index => "list.index" | .partition => "str.partition" | .get => "dict.get"
def rMtd (K : PySem.W.Frag) : Mtd → V → List V → Hp → VK → Prop
  | .split => rSplit | .join => rJoin K | .index => rIndexD K | .partition => rPart | .get => rGet
theorem mt_mtd (c : Ctx X T) (m : Mtd) : MtR X m.id (rMtd T.K m) := by
  rw [← c.kk]
  cases m with
  | split => exact fun pins s σ H x xs v us Q I rx rv h => mt_split pins s σ H x xs v us Q I rx rv h
  | join => exact mt_join
  | index => exact mt_indexD (by have := c.un2; omega)
  | partition => exact mt_partition
  | get => exact mt_get c.un1
theorem om_mtd (m : Mtd) : OpMt T (rMtd T.K m) (mtdF m) := by
  intro L s t1 t2 w1 w ws v vs Q k s1 s2 r1 r2 e fresh als
  have done : ∀ {v : V}, Rep T s.Z L emp w v → Q v s.H := fun r0 => fresh _ s emp (Post.refl k) rfl r0
  unfold mtdF at e
  split at e <;> try (cases e; done)
  · obtain ⟨e1, rfl⟩ := opt_some e
    simp only [Bool.and_eq_true, Bool.not_eq_true', decide_eq_true_eq] at e1
    obtain ⟨y, rfl, ry⟩ := r2.one
    cases r1; cases ry
    exact ⟨_, _, rfl, rfl, e1.1, by rw [← sz_eq]; exact e1.2, fun p hp => new_list (w := .non) k (reps_strs _) fresh hp⟩
  · obtain ⟨us, h1, e⟩ := Option.bind_eq_some_iff.mp e
    obtain ⟨ys, h2, e⟩ := Option.bind_eq_some_iff.mp e
    obtain ⟨e1, rfl⟩ := opt_some e
    obtain ⟨y, rfl, ry⟩ := r2.one
    cases r1
    have hm : hasL Fl.isMut us = false := by
      have : ∀ (us : List W) (ys : List Str), strsOf us = some ys → hasL Fl.isMut us = false := fun us => by
        induction us with
        | nil => intro _ _; rfl
        | cons u us ih =>
          intro ys h
          unfold strsOf at h
          split at h <;> try (cases h; done)
          all_goals rename_i heq <;> try (cases heq; done)
          cases heq
          obtain ⟨r0, h0, rfl⟩ := Option.map_eq_some_iff.mp h
          rw [hasL, ih _ h0]; rfl
      exact this us ys h2
    obtain ⟨a, xs, rfl, q1, rp⟩ := sq_rep h1 hm ry k.zh k.lh s2
    have := rp.strs h2
    subst this
    exact ⟨_, a, ys, rfl, rfl, q1.symm, of_decide_eq_true e1, done .str⟩
  · obtain ⟨o, h1, e⟩ := Option.bind_eq_some_iff.mp e
    obtain ⟨j, rfl, rfl⟩ := Option.map_eq_some_iff.mp e
    obtain ⟨e1, hf⟩ := opt_some h1
    simp only [Bool.and_eq_true] at e1
    obtain ⟨⟨⟨p1, p2⟩, h3⟩, h4⟩ := e1
    obtain ⟨y, rfl, ry⟩ := r2.one
    have d1 := ry.dp k.zh k.lh s2 p1
    have d2 := r1.dp k.zh k.lh s1 (by rw [W.plain]; exact p2)
    rw [W.dat] at d2
    obtain ⟨a, us, hc, rfl, _⟩ := r1.lst_inv k.zh k.lh s1
    obtain ⟨hj, h5, h6⟩ := List.findIdx?_eq_some_iff_getElem.mp hf
    refine ⟨a, y, _, _, j, _, rfl, rfl, d2, d1, h4, h3, List.getElem?_eq_getElem hj, h5, fun m z' hm hz => ?_, done .int⟩
    have lt : m < _ := Nat.lt_trans hm hj
    rw [List.getElem?_eq_getElem lt] at hz
    cases hz
    exact by simpa using h6 m hm
  · obtain ⟨key, hk, rfl⟩ := Option.map_eq_some_iff.mp e
    obtain ⟨y, rfl, ry⟩ := r2.one
    have ev := keyOf_rep hk ry
    obtain ⟨a, us, hc, rfl, q1, ek, nd, rr, b1⟩ := r1.dct_inv k.zh k.lh s1
    refine .inl ⟨a, y, _, rfl, rfl, .inl ⟨us, key, q1, ev, rfl⟩, ?_⟩
    cases hg : getK key ‹_› with
    | none => rw [getK_none ek hg]; rw [hg] at done; exact done .non
    | some w' =>
      obtain ⟨v', h1, x1, x2, x3⟩ := getK_some ek rr hg
      rw [x1]
      rw [hg] at als
      exact als v' h1 (.inl (x3.trans b1)) x2
  · obtain ⟨key, hk, rfl⟩ := Option.map_eq_some_iff.mp e
    obtain ⟨y, z, rfl, ry, rz⟩ := r2.two
    have ev := keyOf_rep hk ry
    obtain ⟨a, us, hc, rfl, q1, ek, nd, rr, b1⟩ := r1.dct_inv k.zh k.lh s1
    refine .inr ⟨a, y, z, _, rfl, rfl, .inl ⟨us, key, q1, ev, rfl⟩, ?_⟩
    cases hg : getK key ‹_› with
    | none =>
      rw [getK_none ek hg]
      rw [hg] at als
      exact als z _ (.inr (.refl _)) rz
    | some w' =>
      obtain ⟨v', h1, x1, x2, x3⟩ := getK_some ek rr hg
      rw [x1]
      rw [hg] at als
      exact als v' h1 (.inl (x3.trans b1)) x2
  · obtain ⟨e1, rfl⟩ := opt_some e
    simp only [Bool.and_eq_true, Bool.not_eq_true', decide_eq_true_eq] at e1
    obtain ⟨y, rfl, ry⟩ := r2.one
    cases r1; cases ry
    exact ⟨_, _, rfl, rfl, e1.1, by rw [← sz_eq]; exact e1.2, fun p hp => new_tup k (.cons (h1 := emp) (h2 := emp) .str (.cons (h1 := emp) (h2 := emp) .str (.cons (h1 := emp) (h2 := emp) .str .nil (.emp _) (.emp _) (.emp _)) (.emp _) (.emp _) (.emp _)) (.emp _) (.emp _) (.emp _)) fresh hp⟩
/-- a receiver of a kind -/
def tyW (K : PySem.W.Frag) (T : String) (x : V) (H : Hp) : Prop := tyV K T x H ∨ (T = "dict" ∧ ∃ a, x = .ref a ∧ IsD H a)
def tBW (K : PySem.W.Frag) (T : String) (r : V → List V → Hp → VK → Prop) (to : TE) (t : TA) : TE := fun σ H Q => to σ H fun x H1 => tyW K T x H1 ∧ t σ H1 fun xs H2 => r x xs H2 Q
theorem pe_bmW {o : Expr} {to : TE} {t : TA} {name : Str} {Ty id : String} {r : V → List V → Hp → VK → Prop} (pa : PlainAttrs Ty) (slot : Slot Ty name id) (hty : typeOf (.builtin id) = pure (.type "method_descriptor")) (hm : MtR X id r) (ho : PE X o to) (ha : PA X (e :: es) t)
    (hbase : attributeBase o name X.env (eval o X.env) = eval o X.env)
    (hfew : ((backTo cpos (starEach (e :: es) X.env)).all (fun x => !x.1) && (backToKw cpos (keywordEach [] X.env)).all (fun x => x.1.isSome)
      && decide ((e :: es).length + ([] : List Keyword).length + (if ([] : List Keyword).isEmpty then 0 else 1) < 30)) = true)
    (hline : (apos.endLine == cpos.line) = true) (hs : starEach (e :: es) X.env = (false, eval e X.env) :: starEach es X.env) (hplain : (backTo cpos (starEach es X.env)).any (·.1) = false) :
    PE X (.Call (.Attribute o name apos) (e :: es) [] cpos) (tBW X.K Ty r to t) := by
  refine ⟨fun pins s σ H Q I h => ?_⟩
  refine wpAny_Call_method_late hbase hfew hline rfl (thn (ho.run pins s σ H _ I h) fun v s1 ⟨x, H1, I1, r1, ty, q1⟩ => ?_)
  have hT : s1.TypeIs v Ty ∧ ∀ a, v = .ref a → ∃ ob, s1.heap.get? a = some ob ∧ ob.dict = none := by
    rcases ty with ty | ⟨rfl, a, rfl, d⟩
    · exact tyV_is I1 r1 ty
    · cases r1
      obtain ⟨z1, z2, _⟩ := isD_at I1 d
      exact ⟨z1, z2⟩
  refine ⟨Ty, id, pa, slot, hty, hT.1, hT.2, ?_⟩
  have hA := ha.run cpos pins s1 σ H1 _ I1 q1
  rw [hs] at hA ⊢
  refine Calls.callWith_builtin (by show (false || (backTo cpos (starEach es X.env)).any (·.1)) = false; rw [hplain] <;> rfl) (Calls.evalArgs_plain ?_)
  exact thn hA fun us s2 ⟨vs, H2, I2, r2, q2⟩ => hm pins s2 σ H2 x vs v us Q I2 r1 r2 q2
theorem mtd_ty {m : Mtd} {w1 : W} {v : V} {s : Sx} {t : Hp} (k : Hs L s) (h : Sub t s.H) (r : Rep T s.Z L t w1 v) (e : m.fits w1 = true) : tyW T.K m.ty v s.H := by
  unfold Mtd.fits at e
  split at e <;> try (cases e; done)
  · cases r; exact .inl rfl
  · cases r; exact .inl rfl
  · cases r; exact .inl rfl
  · obtain ⟨a, vs, hc, rfl, q1, r1, b1, _⟩ := r.lst_inv k.zh k.lh h
    exact .inl (.inl ⟨rfl, vs, .inl q1⟩)
  · obtain ⟨a, us, hc, rfl, q1, _⟩ := r.dct_inv k.zh k.lh h
    exact .inr ⟨rfl, a, rfl, .inl ⟨us, q1⟩⟩
/-! ## dict comprehensions -/
theorem dcomp_reads {own : List (Str × Nat)} {it : It} {tgw : Tg} {is : List IT} {ik ie : IE} {wi : TI}
    (hi : ∀ (ro env : Env) (σ : St) (s : Sx) (L : Hp) (Q : L2.It → Hp → Prop), Hs L s → EnvR T s.Z L emp ro σ → EnvR T s.Z emp s.E env σ → WantG (fun Z t items J => Gives T L J items Z t) T σ s (evIt ρ it ro env) Q E → wi σ s.H Q)
    (hn : ∀ i ∈ tgw.names, i ∈ own.map (·.2)) (ro env : Env) (σ : St) (s : Sx) (L : Hp) (Q : VK) (k : Hs L s) (rr : EnvR T s.Z L emp ro σ) (re : EnvR T s.Z emp s.E env σ)
    (w : Want T L σ s (ev ρ (.dcomp (own.map (·.2)) it tgw is ik ie) ro env) Q E) :
    tDc wi (gOf T tgw) (bOf T X0 (evTand ρ is)) (tOf T X0 (ev ρ ik)) (tOf T X0 (ev ρ ie)) (own.map (·.2)) σ s.H Q := by
  generalize hvs : own.map (·.2) = vs at *
  rw [ev] at w
  refine hi ro env σ s L _ k rr re (WantG.bind w (Post.refl k) fun items env1 J s1 t1 p1 e1 gv w1 => ?_)
  obtain ⟨k1, d1⟩ := k.post p1
  intro D hD
  obtain ⟨l, E', a1, a2, a3, a5, a7⟩ := backE_ok vs e1
  generalize hstep : (fun (x : W) (env2 : Env) => match asgT [] tgw x (wipeE ro vs) env2 with
        | some (ro3, env3) => (evTand ρ is ro3 env3).bind fun b env4 => if b then (ev ρ ik ro3 env4).bind fun kw env5 => bindE (keyOf kw) fun key => (ev ρ ie ro3 env5).bind fun w env6 => .ok (some (key, w)) (wipeE env6 vs) else .ok none (wipeE env4 vs)
        | none => (.bad : R (Option (Key × W)))) = step at w1
  cases hr : dcompLoop step items [] (wipeE env1 vs) with
  | bad => rw [hr] at w1; exact w1.elim
  | ex _ _ _ => rw [hr] at w1; exact w1.elim
  | ok ws env6 =>
    rw [hr] at w1
    simp only [noEx, R.bind_ok] at w1
    let sb : Sx := ⟨s1.Z, E', s1.H⟩
    have kb : Hs L sb := ⟨k1.zh, a2.trans k1.eh, k1.lh, k1.ze.subr a2, k1.zl, k1.el.subr a2⟩
    have pb0 : Post sb ⟨s1.Z, E', upd s1.H D (.dK [])⟩ emp := (Post.newT kb hD (o := .dK [])).bare
    refine ⟨fun i m H => ∃ (si : Sx) (ta : Hp) (acc : List (Key × W)) (accV : List (Key × V)) (env0 : Env), m = items.length - i ∧ i ≤ items.length ∧ si.H = H ∧ Post sb si ta ∧ EnvR T si.Z emp si.E (wipeE env0 vs) σ ∧ (acc.map (·.1) = accV.map (·.1) ∧ (acc.map (·.1)).Nodup) ∧ Reps T si.Z L ta (acc.map (·.2)) (accV.map (·.2)) ∧
      H D = some (.dK accV) ∧ si.Z D = none ∧ si.E D = none ∧ ta D = none ∧ dcompLoop step (items.drop i) acc (wipeE env0 vs) = .ok ws env6,
      ⟨items.length, ⟨s1.Z, E', upd s1.H D (.dK [])⟩, emp, [], [], env1, by simp, Nat.zero_le _, rfl, pb0, a5, ⟨rfl, List.nodup_nil⟩, .nil, upd_same, k1.zh.none hD, (a2.trans k1.eh).none hD, rfl, hr⟩, ?_⟩
    rintro i m H ⟨si, ta, acc, accV, env0, rfl, hile, rfl, pi', ei, ⟨ek, nd⟩, ra, hd, dz, de, dt, hc⟩
    obtain ⟨ki, _⟩ := kb.post pi'
    have ft1 := pi'.fr t1 p1.th p1.zt.symm (p1.et.symm.subr a2)
    obtain ⟨g1, g2⟩ := gv si ki pi'.zz ft1.1 i
    by_cases hlt : i < items.length
    · obtain ⟨w0, hw0⟩ : ∃ w0, items[i]? = some w0 := ⟨_, List.getElem?_eq_getElem hlt⟩
      obtain ⟨go, yl⟩ := g2 w0 hw0
      have hdrop : items.drop i = w0 :: items.drop (i + 1) := by
        have := List.getElem?_eq_some_iff.mp hw0
        obtain ⟨_, rfl⟩ := this
        rw [List.drop_eq_getElem_cons hlt]
      rw [hdrop, dcompLoop] at hc
      refine .inr ⟨go, fun H' => ∃ (si : Sx) (ta : Hp) (acc : List (Key × W)) (accV : List (Key × V)) (env0 : Env), si.H = H' ∧ Post sb si ta ∧ EnvR T si.Z emp si.E (wipeE env0 vs) σ ∧ (acc.map (·.1) = accV.map (·.1) ∧ (acc.map (·.1)).Nodup) ∧ Reps T si.Z L ta (acc.map (·.2)) (accV.map (·.2)) ∧
        H' D = some (.dK accV) ∧ si.Z D = none ∧ si.E D = none ∧ ta D = none ∧ dcompLoop step (items.drop (i + 1)) acc (wipeE env0 vs) = .ok ws env6, fun H' ⟨si, ta, acc, accV, env0, h1, h2, h3, h4, h5, h6, h7, h8, h9, h10⟩ => ⟨items.length - (i + 1), by omega, si, ta, acc, accV, env0, rfl, hlt, h1, h2, h3, h4, h5, h6, h7, h8, h9, h10⟩, fun x H' y => ?_⟩
      obtain ⟨s2, rfl, p2, e2, r2⟩ := yl x H' y
      obtain ⟨k2, _⟩ := ki.post p2
      have oneD : Sub (one D (.dK accV)) si.H := Sub.one hd
      have f2 := p2.fr (one D (.dK accV)) oneD (Dj.one dz) (Dj.one de)
      have zz2 : Sub s1.Z s2.Z := pi'.zz.trans p2.zz
      have rrw : EnvR T s2.Z L emp (wipeE ro vs) (L2.wipe σ vs) := ((rr.up p1.zz).up zz2).wipe vs
      have rew : EnvR T s2.Z emp s2.E (wipeE env0 vs) (L2.wipe σ vs) := by
        rw [e2]
        exact (ei.up p2.zz).loose (wipe_len σ vs) fun j ⟨w, hw⟩ => wipe_at vs σ j (wipeE_non vs env0 j hw)
      have agw : Agree vs σ (L2.wipe σ vs) := ⟨wipe_len σ vs, fun j hj => wipe_at vs σ j hj⟩
      rw [← hstep] at hc
      dsimp only at hc
      cases has : asgT [] tgw w0 (wipeE ro vs) (wipeE env0 vs) with
      | none => rw [has] at hc; cases hc
      | some pr =>
        obtain ⟨ro3, env3⟩ := pr
        rw [has] at hc
        dsimp only at hc
        have p2e : Post si s2 (join emp emp) := p2.less ((Sub.emp _).join (.emp _))
        refine ⟨[], wipeE ro vs, wipeE env0 vs, ro3, env3, si, s2, L, emp, emp, w0, rfl, ki, p2e, .emp _, rrw, rew, r2, has, fun σ2 s3 p3 z3 rr3 re3 ag _ => ?_⟩
        have ag2 : Agree vs σ σ2 := agw.trans (ag.mono hn)
        refine ⟨wipe_eq ag2 fun _ h => h, ?_⟩
        obtain ⟨k3, _⟩ := ki.post p3
        cases hT : evTand ρ is ro3 env3 with
        | bad => rw [hT] at hc; cases hc
        | ex _ _ _ => rw [hT] at hc; cases hc
        | ok kk env4 =>
          rw [hT] at hc
          simp only [R.bind_ok] at hc
          refine ⟨ro3, env3, s3, L, rfl, k3, rr3, re3, ?_⟩
          rw [hT]
          intro b s4 t4 p4 e4 hb
          subst hb
          obtain ⟨k4, _⟩ := k3.post p4
          have p34 := p3.trans p4
          have f4 := p34.fr (one D (.dK accV)) oneD (Dj.one dz) (Dj.one de)
          cases kk with
          | true =>
            simp only [if_true] at hc ⊢
            cases hK : ev ρ ik ro3 env4 with
            | bad => rw [hK] at hc; cases hc
            | ex _ _ _ => rw [hK] at hc; cases hc
            | ok kw env5 =>
              rw [hK] at hc
              simp only [R.bind_ok] at hc
              cases hkey : keyOf kw with
              | none => rw [hkey] at hc; cases hc
              | some key =>
                rw [hkey] at hc
                rw [bindE_some] at hc
                refine ⟨ro3, env4, s4, L, rfl, k4, rr3.up p4.zz, e4, ?_⟩
                rw [hK]
                intro vk s5 t5 p5 e5 r5
                have ek0 := keyOf_rep hkey r5
                obtain ⟨k5, _⟩ := k4.post p5
                have p35 := p34.trans p5
                cases hV : ev ρ ie ro3 env5 with
                | bad => rw [hV] at hc; cases hc
                | ex _ _ _ => rw [hV] at hc; cases hc
                | ok y6 env6' =>
                  rw [hV] at hc
                  simp only [R.bind_ok] at hc
                  split at hc
                  · rename_i hsz
                    rw [hstep] at hc
                    refine ⟨ro3, env5, s5, L, rfl, k5, (rr3.up p4.zz).up p5.zz, e5, ?_⟩
                    rw [hV]
                    intro v6 s6 t6 p6 e6 r6
                    have p36 := p35.trans p6
                    have f6 := p36.fr (one D (.dK accV)) oneD (Dj.one dz) (Dj.one de)
                    have fta := pi'.with p36
                    have ag' : EnvR T s6.Z emp s6.E (wipeE env6' vs) σ := (EnvR.wipe0 vs e6).loose ag2.len.symm fun j ⟨w, hw⟩ => (ag2.at_ j (wipeE_non vs env6' j hw)).symm
                    have t6D : t6 D = none := f6.2.2.2.none
                    have taD : ta D = none := dt
                    obtain ⟨q1, q2⟩ := setK_rep (k := key) ek (ra.up p36.zz) r6 fta.2.2.2
                    have nv : (accV.map (·.1)).Nodup := by rw [← ek]; exact nd
                    have hlen := congrArg List.length ek
                    rw [List.length_map, List.length_map] at hlen
                    refine ⟨accV, key, ek0, f6.1 _ _ one_at, by rw [← hlen, ← sz_eq]; exact hsz, ⟨s6.Z, s6.E, upd s6.H D (.dK (putK accV key v6))⟩, join ta t6, setK key y6 acc, putK accV key v6, env6', rfl, ?_, ag', ⟨by rw [putK_eq nv]; exact q1, setK_nodup nd⟩, ?_, upd_same, f6.2.1.none, f6.2.2.1.none, ?_, hc⟩
                    · exact (pi'.both p36).poke hD f6.2.1.none f6.2.2.1.none (by unfold join; rw [taD, t6D]; rfl)
                    · rw [putK_eq nv]; exact q2
                    · unfold join; rw [taD, t6D]; rfl
                  · cases hc
          | false =>
            simp only [Bool.false_eq_true, if_false, R.bind_ok] at hc ⊢
            rw [hstep] at hc
            have ag' : EnvR T s4.Z emp s4.E (wipeE env4 vs) σ := (EnvR.wipe0 vs e4).loose ag2.len.symm fun j ⟨w, hw⟩ => (ag2.at_ j (wipeE_non vs env4 j hw)).symm
            have fta := pi'.with p34
            refine ⟨s4, ta, acc, accV, env4, rfl, ?_, ag', ⟨ek, nd⟩, ra.up p34.zz, f4.1 _ _ one_at, f4.2.1.none, f4.2.2.1.none, dt, hc⟩
            exact (pi'.both p34).less (.joinl _ _)
    · have hi' : items.length ≤ i := by omega
      rw [List.drop_eq_nil_of_le hi', dcompLoop] at hc
      cases hc
      refine .inl ⟨g1 hi', ?_⟩
      have pu : Post s1 ⟨si.Z, join l si.E, si.H⟩ ta := pi'.unlend k1.eh k1.ze a1 a2 a3
      have lD : l D = none := (a1.trans k1.eh).none hD
      have pw := p1.trans (pu.widen hD hd dz (by show (l D).or (si.E D) = Option.none; rw [lD, de]; rfl) dt)
      refine w1 (.ref D) ⟨si.Z, join l si.E, si.H⟩ _ pw (a7 _ _ _ pi'.zz (Dj.fr k1.eh k1.ze a1 a3 pi') ei) ?_
      exact .dct (m := .own) (hc := ta) (Sub.joinr (Dj.one dt).symm _ _ one_at) ⟨.joinl _ _, fun z => absurd rfl z⟩ dt ek nd ra
theorem se_dcomp {kx vx tg iter : Expr} {ifs : List Expr} {scope : Scope} {own : List (Str × Nat)} {it : It} {tgw : Tg} {is : List IT} {ik ie : IE} (c : Ctx X T) (ok : BlkOk X.N X.env.scope scope own) (hi : SI X T E tg iter (evIt ρ it))
    (hg : ∀ (s : Shared) (H : Hp) (C : Addr) (cl : List (Str × Addr)) (fp : List Addr), SG (X.blk s H scope (compEnvC scope cl C X.env) fp) T tg tgw)
    (ht : ∀ (s : Shared) (H : Hp) (C : Addr) (cl : List (Str × Addr)) (fp : List Addr), SC (X.blk s H scope (compEnvC scope cl C X.env) fp) T X0 ifs (evTand ρ is))
    (hk : ∀ (s : Shared) (H : Hp) (C : Addr) (cl : List (Str × Addr)) (fp : List Addr), SE (X.blk s H scope (compEnvC scope cl C X.env) fp) T X0 kx (ev ρ ik))
    (he : ∀ (s : Shared) (H : Hp) (C : Addr) (cl : List (Str × Addr)) (fp : List Addr), SE (X.blk s H scope (compEnvC scope cl C X.env) fp) T X0 vx (ev ρ ie))
    (hs : ∀ x, foldedSetIterable iter X.env x = pure x) (hn : ∀ i ∈ tgw.names, i ∈ own.map (·.2)) :
    SE X T E (.DictComp kx vx [⟨tg, iter, ifs, 0⟩] scope pos) (ev ρ (.dcomp (own.map (·.2)) it tgw is ik ie)) := by
  obtain ⟨wi, pi, hi⟩ := hi
  exact ⟨_, pe_dc c.calm c.nd pi ok (fun s H C cl fp => (hg s H C cl fp).pg) (fun s H C cl fp => (ht s H C cl fp).pts) (fun s H C cl fp => (hk s H C cl fp).pe) (fun s H C cl fp => (he s H C cl fp).pe) hs, dcomp_reads hi hn⟩
theorem se_mtd {o : Expr} {m : Mtd} {ir : IE} {is : List IE} (c : Ctx X T) (ho : SE X T E o (ev ρ ir)) (ha : SA X T E (e :: es) (evs ρ is))
    (hbase : attributeBase o m.name X.env (eval o X.env) = eval o X.env)
    (hfew : ((backTo cpos (starEach (e :: es) X.env)).all (fun x => !x.1) && (backToKw cpos (keywordEach [] X.env)).all (fun x => x.1.isSome)
      && decide ((e :: es).length + ([] : List Keyword).length + (if ([] : List Keyword).isEmpty then 0 else 1) < 30)) = true)
    (hline : (apos.endLine == cpos.line) = true) (hs : starEach (e :: es) X.env = (false, eval e X.env) :: starEach es X.env) (hplain : (backTo cpos (starEach es X.env)).any (·.1) = false) :
    SE X T E (.Call (.Attribute o m.name apos) (e :: es) [] cpos) (ev ρ (.mtd m ir is)) := by
  obtain ⟨to, po, ho⟩ := ho
  obtain ⟨ts, ps, ha⟩ := ha
  have pe : PE X (.Call (.Attribute o m.name apos) (e :: es) [] cpos) (tBW X.K m.ty (rMtd T.K m) to ts) := by
    have hm := mt_mtd c m
    cases m with
    | split => exact pe_bmW PySem.F.plainAttrs_str PySem.F.slot_str_split PySem.F.type_str_split hm po ps hbase hfew hline hs hplain
    | join => exact pe_bmW PySem.F.plainAttrs_str PySem.F.slot_str_join PySem.F.type_str_join hm po ps hbase hfew hline hs hplain
    | index => exact pe_bmW PySem.F.plainAttrs_list PySem.F.slot_list_index PySem.F.type_list_index hm po ps hbase hfew hline hs hplain
    | partition => exact pe_bmW PySem.F.plainAttrs_str PySem.F.slot_str_partition PySem.F.type_str_partition hm po ps hbase hfew hline hs hplain
    | get => exact pe_bmW PySem.F.plainAttrs_dict PySem.F.slot_dict_get PySem.F.type_dict_get hm po ps hbase hfew hline hs hplain
  refine ⟨_, pe, fun ro env σ s L Q k rr re w => ?_⟩
  rw [ev] at w
  cases hA : ev ρ ir ro env with
  | bad => rw [hA] at w; exact w.elim
  | ex c0 y env1 =>
    rw [hA] at w
    refine ho ro env σ s L _ k rr re ?_
    rw [hA]
    exact w
  | ok x env1 =>
    refine ho ro env σ s L _ k rr re ?_
    rw [hA]
    rw [hA] at w
    simp only [R.bind_ok] at w
    intro v1 s1 t1 p1 e1 r1
    obtain ⟨k1, _⟩ := k.post p1
    split at w
    · exact w.elim
    rename_i hf
    have ty : tyW X.K m.ty v1 s1.H := by
      rw [c.kk]
      exact mtd_ty k1 p1.th r1 (by simpa using hf)
    refine ⟨ty, ?_⟩
    refine ha ro env1 σ s1 L _ k1 (rr.up p1.zz) e1 (WantG.bind w p1 fun ws env2 vs s2 t2 p2 e2 r2 w2 => ?_)
    obtain ⟨k2, _⟩ := k1.post p2
    obtain ⟨a1, a2, a3, a4⟩ := p1.with p2
    obtain ⟨z, q, w3⟩ := want_opt w2
    refine om_mtd m L s2 t1 t2 x z ws v1 vs Q k2 a1 p2.th (r1.up p2.zz) r2 q (fun v s' t pp ee rq => w3 v s' t ((p1.trans p2).trans pp) (by rw [ee]; exact e2.up pp.zz) rq) fun v h sb rq => w3 v s2 h ((p1.both p2).less ?_) e2 rq
    rcases sb with sb | sb
    · exact sb.trans (.joinl _ _)
    · exact sb.trans (.joinr a4)
end
end VL
set_option Elab.async false
set_option linter.all false
set_option maxRecDepth 100000
namespace VL
open PySem L2
/-! ## what statements do -/
inductive O where
  | nx (ro env : Env)
  | rt (w : W) (env : Env)
  | bk (ro env : Env)
  | ct (ro env : Env)
  | ex (c : Nat) (w : W) (env : Env)
  | bad
def O.seq (o : O) (k : Env → Env → O) : O := match o with
  | .nx ro env => k ro env
  | o => o
def R.st {α : Type} (r : R α) (k : α → Env → O) : O := match r with
  | .ok a env => k a env
  | .ex c w env => .ex c w env
  | .bad => .bad
@[simp] theorem O.seq_nx (ro env : Env) (k : Env → Env → O) : (O.nx ro env).seq k = k ro env := rfl
@[simp] theorem O.seq_rt (w : W) (env : Env) (k : Env → Env → O) : (O.rt w env).seq k = .rt w env := rfl
@[simp] theorem O.seq_bk (ro env : Env) (k : Env → Env → O) : (O.bk ro env).seq k = .bk ro env := rfl
@[simp] theorem O.seq_ct (ro env : Env) (k : Env → Env → O) : (O.ct ro env).seq k = .ct ro env := rfl
@[simp] theorem O.seq_ex (c : Nat) (w : W) (env : Env) (k : Env → Env → O) : (O.ex c w env).seq k = .ex c w env := rfl
@[simp] theorem O.seq_bad (k : Env → Env → O) : O.bad.seq k = .bad := rfl
@[simp] theorem R.st_ok {α : Type} (a : α) (env : Env) (k : α → Env → O) : (R.ok a env).st k = k a env := rfl
@[simp] theorem R.st_ex {α : Type} (c : Nat) (w : W) (env : Env) (k : α → Env → O) : (R.ex c w env : R α).st k = .ex c w env := rfl
@[simp] theorem R.st_bad {α : Type} (k : α → Env → O) : (R.bad : R α).st k = .bad := rfl
def oOpt (o : Option (Env × Env)) : O := match o with
  | some (ro, env) => .nx ro env
  | none => .bad
/-- slots that may still be read behind a loan -/
def keepRo (ks : List Nat) (ro : Env) : Env := ro.mapIdx fun i o => if ks.contains i then o else none
def backO (old ro : Env) (xs ks : List Nat) : O → O
  | .nx _ env => .nx (keepRo ks ro) (backE old env xs)
  | .bk _ env => .bk (keepRo ks ro) (backE old env xs)
  | .ct _ env => .ct (keepRo ks ro) (backE old env xs)
  | .rt w env => .rt w (backE old env xs)
  | .ex c w env => .ex c w (backE old env xs)
  | .bad => .bad
def forL (asg : W → Env → Env → Option (Env × Env)) (body : Env → Env → O) : List W → Env → Env → O
  | [], ro, env => .nx ro env
  | x :: r, ro, env => match asg x ro env with
    | none => .bad
    | some (ro1, env1) => match body ro1 env1 with
      | .nx ro2 env2 => forL asg body r ro2 env2
      | .ct ro2 env2 => forL asg body r ro2 env2
      | .bk ro2 env2 => .nx ro2 env2
      | o => o
def whlL (test : Env → Env → R Bool) (body : Env → Env → O) : Nat → Env → Env → O
  | 0, _, _ => .bad
  | n + 1, ro, env => (test ro env).st fun k env1 => if k then (match body ro env1 with
      | .nx ro2 env2 => whlL test body n ro2 env2
      | .ct ro2 env2 => whlL test body n ro2 env2
      | .bk ro2 env2 => .nx ro2 env2
      | o => o) else .nx ro env1
def wFuel : Nat := 1000000
/-- the node at some fields, frozen -/
def frzP (w : W) (fs : List Ps) : Option W := (getP w fs).bind fun x => setP w fs x.freeze
mutual
def evS (ρ : Nat → Fn) (lk : List Nat) : IS → Env → Env → O
  | .asg t e, ro, env => (ev ρ e ro env).st fun w env1 => oOpt (asgT lk t w ro env1)
  | .setx i fs ix e, ro, env => (ev ρ e ro env).st fun w env1 => match env1[i]? with
    | some (some x) => match getP x fs with
      | some y => match lendE env1 ro [i] with
        | (env2, ro2) => (ev ρ ix ro2 env2).st fun k env3 => match (mutF .setix y [k, w]).bind fun p => setP x fs p.1 with
          | some x' => .nx ro (env3.set i (some x'))
          | none => .bad
      | none => .bad
    | _ => .bad
  | .par2 i j a b, ro, env => (evs ρ [a, b] ro env).st fun ws env1 => match ws with
    | [x, y] => match asgN lk i x ro env1 with
      | some (ro2, env2) => oOpt (asgN lk j y ro2 env2)
      | none => .bad
    | _ => .bad
  | .par3 i j l a b c, ro, env => (evs ρ [a, b, c] ro env).st fun ws env1 => match ws with
    | [x, y, z] => match asgN lk i x ro env1 with
      | some (ro2, env2) => match asgN lk j y ro2 env2 with
        | some (ro3, env3) => oOpt (asgN lk l z ro3 env3)
        | none => .bad
      | none => .bad
    | _ => .bad
  | .expr e, ro, env => (ev ρ e ro env).st fun _ env1 => .nx ro env1
  | .ifs c a b, ro, env => (evT ρ c ro env).st fun k env1 => if k then evSs ρ lk a ro env1 else evSs ρ lk b ro env1
  | .fors t it body, ro, env => (evIt ρ it ro env).st fun items env1 => forL (asgT lk t) (evSs ρ lk body) items ro env1
  | .whl c body, ro, env => whlL (evT ρ c) (evSs ρ lk body) wFuel ro env
  | .ret e, ro, env => (ev ρ e ro env).st fun w env1 => if w.lnt? then .bad else .rt w env1
  | .retn, _, env => .rt .non env
  | .brk, ro, env => .bk ro env
  | .cnt, ro, env => .ct ro env
  | .pass, ro, env => .nx ro env
  | .bad, _, _ => .bad
  | .frz i fs, ro, env => match env[i]? with
    | some (some w) => match frzP w fs with
      | some w' => .nx ro (env.set i (some w'))
      | none => .bad
    | _ => .nx ro env
  | .lend xs ks body, ro, env => match lendE env ro xs with
    | (env1, ro1) => backO env ro xs (lk ++ ks) (evS ρ (lk ++ ks ++ xs) body ro1 env1)
def evSs (ρ : Nat → Fn) (lk : List Nat) : List IS → Env → Env → O
  | [], ro, env => .nx ro env
  | st :: r, ro, env => (evS ρ lk st ro env).seq fun ro1 env1 => evSs ρ lk r ro1 env1
end
/-! ## defs -/
def roOf : List Md → List W → Env
  | .lent :: m, w :: r => some w :: roOf m r
  | _ :: m, _ :: r => none :: roOf m r
  | _, _ => []
def envOf : List Md → List W → Env
  | .lent :: m, _ :: r => none :: envOf m r
  | _ :: m, w :: r => some w :: envOf m r
  | _, _ => []
def keepB : List Md → Env → Env
  | .bor :: m, w :: r => w :: keepB m r
  | _ :: m, _ :: r => none :: keepB m r
  | _, _ => []
def borS : Nat → List Md → List Nat
  | _, [] => []
  | n, .bor :: m => n :: borS (n + 1) m
  | n, _ :: m => borS (n + 1) m
/-- what a def does: n slots, the body -/
def runDef (ρ : Nat → Fn) (md : List Md) (n : Nat) (body : List IS) : FF := fun ws =>
  match evSs ρ (borS 0 md) body (roOf md ws ++ List.replicate (n - md.length) none) (envOf md ws ++ List.replicate (n - md.length) none) with
  | .nx _ env => .ok .non (keepB md env)
  | .rt w env => .ok w (keepB md env)
  | .ex c w env => .ex c w (keepB md env)
  | _ => .bad
end VL
set_option Elab.async false
set_option linter.all false
set_option maxRecDepth 100000
set_option maxHeartbeats 1000000
namespace VL
open PySem L2
structure Kp (lk : List Nat) (σ σ' : St) : Prop where
  len : σ'.length = σ.length
  at_ : ∀ i ∈ lk, σ'[i]? = σ[i]?
theorem Kp.refl (lk : List Nat) (σ : St) : Kp lk σ σ := ⟨rfl, fun _ _ => rfl⟩
theorem Kp.trans {lk : List Nat} {σ σ1 σ2 : St} (a : Kp lk σ σ1) (b : Kp lk σ1 σ2) : Kp lk σ σ2 := ⟨b.len.trans a.len, fun i h => (b.at_ i h).trans (a.at_ i h)⟩
theorem Kp.mono {lk lk' : List Nat} {σ σ1 : St} (a : Kp lk σ σ1) (h : ∀ i ∈ lk', i ∈ lk) : Kp lk' σ σ1 := ⟨a.len, fun i k => a.at_ i (h i k)⟩
def WantS (T : Tb) (L : Hp) (lk : List Nat) (σ : St) (s : Sx) (o : O) (D : Ends) (E : XK) : Prop := match o with
  | .nx ro env => ∀ σ' s', Post s s' emp → EnvR T s'.Z L emp ro σ' → EnvR T s'.Z emp s'.E env σ' → Kp lk σ σ' → D.nx σ' s'.H
  | .bk ro env => ∀ σ' s', Post s s' emp → EnvR T s'.Z L emp ro σ' → EnvR T s'.Z emp s'.E env σ' → Kp lk σ σ' → D.bk σ' s'.H
  | .ct ro env => ∀ σ' s', Post s s' emp → EnvR T s'.Z L emp ro σ' → EnvR T s'.Z emp s'.E env σ' → Kp lk σ σ' → D.ct σ' s'.H
  | .rt w env => ∀ v σ' s' t, Post s s' t → EnvR T s'.Z emp s'.E env σ' → Kp lk σ σ' → Rep T s'.Z emp t w v → D.rt v s'.H
  | .ex c w env => ∀ cls d σ' s', Post s s' emp → EnvR T s'.Z emp s'.E env σ' → Kp lk σ σ' → ErrR T s'.Z c w cls d → E cls d s'.H
  | .bad => False
section
variable {X : Cx} {T : Tb} {E : XK} {ρ : Nat → Fn} {e a b : Expr} {pos p : Pos} {Z L : Hp} {lk : List Nat} {σ : St} {s : Sx} {D : Ends}
theorem WantS.later {σ1 : St} {s1 : Sx} {t1 : Hp} {o : O} (w : WantS T L lk σ s o D E) (p : Post s s1 t1) (kp : Kp lk σ σ1) : WantS T L lk σ1 s1 o D E := by
  cases o with
  | nx ro env => exact fun σ' s' q a b k => w σ' s' (p.trans q) a b (kp.trans k)
  | bk ro env => exact fun σ' s' q a b k => w σ' s' (p.trans q) a b (kp.trans k)
  | ct ro env => exact fun σ' s' q a b k => w σ' s' (p.trans q) a b (kp.trans k)
  | rt x env => exact fun v σ' s' t q b k r => w v σ' s' t (p.trans q) b (kp.trans k) r
  | ex c x env => exact fun cls d σ' s' q b k r => w cls d σ' s' (p.trans q) b (kp.trans k) r
  | bad => exact w
theorem WantS.bind {α β : Type} {RA : Hp → Hp → α → β → Prop} {r : R α} {k : α → Env → O} {Q' : β → Hp → Prop} {σ1 : St} {s1 : Sx} {t1 : Hp} (w : WantS T L lk σ s (r.st k) D E) (p : Post s s1 t1) (kp : Kp lk σ σ1)
    (h : ∀ a env v s2 t, Post s1 s2 t → EnvR T s2.Z emp s2.E env σ1 → RA s2.Z t a v → WantS T L lk σ s (k a env) D E → Q' v s2.H) : WantG RA T σ1 s1 r Q' E := by
  cases r with
  | ok a env => exact fun v s2 t q e r => h a env v s2 t q e r w
  | ex c a env => exact fun cls d s2 q e r => w cls d σ1 s2 (p.trans q) e kp r
  | bad => exact w
theorem Post.absorb {s1 : Sx} {t1 E' : Hp} (p : Post s s1 t1) (h : Sub E' (join s1.E t1)) : Post s ⟨s1.Z, E', s1.H⟩ emp :=
  ⟨p.zz, p.zh, h.trans (p.eh.join p.th), .emp _, (p.ze.joinr p.zt).subr h, .emp' _, .emp' _, fun g x y z => by
    obtain ⟨a, b, c, d⟩ := p.fr g x y z
    exact ⟨a, b, (c.joinr d).subr h, .emp' _⟩⟩
abbrev FS := List Nat → Env → Env → O
def SS (X : Cx) (T : Tb) (E : XK) (st : Stmt) (f : FS) : Prop := ∃ t, PS X st t ∧ ∀ (lk : List Nat) (ro env : Env) (σ : St) (s : Sx) (L : Hp) (D : Ends), Hs L s → EnvR T s.Z L emp ro σ → EnvR T s.Z emp s.E env σ →
  WantS T L lk σ s (f lk ro env) D E → t D σ s.H
def SSs (X : Cx) (T : Tb) (E : XK) (sts : List Stmt) (f : FS) : Prop := ∃ t, PSs X sts t ∧ ∀ (lk : List Nat) (ro env : Env) (σ : St) (s : Sx) (L : Hp) (D : Ends), Hs L s → EnvR T s.Z L emp ro σ → EnvR T s.Z emp s.E env σ →
  WantS T L lk σ s (f lk ro env) D E → t D σ s.H
abbrev fS (ρ : Nat → Fn) (i : IS) : FS := fun lk => evS ρ lk i
abbrev fSs (ρ : Nat → Fn) (i : List IS) : FS := fun lk => evSs ρ lk i
theorem ss_nil : SSs X T E [] (fSs ρ []) := ⟨_, pss_nil, fun lk ro env σ s L D k rr re w => by
  simp only [fSs, evSs] at w
  exact w σ s (Post.refl k) rr re (.refl _ _)⟩
theorem ss_cons {st : Stmt} {sts : List Stmt} {i : IS} {is : List IS} (h : SS X T E st (fS ρ i)) (hs : SSs X T E sts (fSs ρ is)) : SSs X T E (st :: sts) (fSs ρ (i :: is)) := by
  obtain ⟨t, pt, h⟩ := h
  obtain ⟨ts, pts, hs⟩ := hs
  refine ⟨_, pss_cons pt pts, fun lk ro env σ s L D k rr re w => ?_⟩
  simp only [fSs, evSs] at w
  refine h lk ro env σ s L _ k rr re ?_
  simp only [fS]
  cases q : evS ρ lk i ro env with
  | bad => rw [q] at w; exact w
  | rt x env1 => rw [q] at w; exact w
  | bk r1 env1 => rw [q] at w; exact w
  | ct r1 env1 => rw [q] at w; exact w
  | ex c x env1 => rw [q] at w; exact w
  | nx r1 env1 =>
    rw [q] at w
    exact fun σ' s' p a b kp => hs lk r1 env1 σ' s' L D (k.post p).1 a b (w.later p kp)
/-- a remark of ours: a slot frozen ahead of what follows -/
theorem ss_ghost {sts : List Stmt} {i : IS} {is : List IS} (hg : ∀ (lk : List Nat) (ro env : Env) (σ : St) (s : Sx) (L : Hp), Hs L s → EnvR T s.Z L emp ro σ → EnvR T s.Z emp s.E env σ → evS ρ lk i ro env = .bad ∨
      ∃ ro1 env1 s1, evS ρ lk i ro env = .nx ro1 env1 ∧ s1.H = s.H ∧ Post s s1 emp ∧ EnvR T s1.Z L emp ro1 σ ∧ EnvR T s1.Z emp s1.E env1 σ) (hs : SSs X T E sts (fSs ρ is)) : SSs X T E sts (fSs ρ (i :: is)) := by
  obtain ⟨ts, pts, hs⟩ := hs
  refine ⟨_, pts, fun lk ro env σ s L D k rr re w => ?_⟩
  simp only [fSs, evSs] at w
  rcases hg lk ro env σ s L k rr re with q | ⟨ro1, env1, s1, q, hH, p, rr1, re1⟩
  · rw [q] at w; exact w.elim
  · rw [q] at w
    rw [← hH]
    exact hs lk ro1 env1 σ s1 L D (k.post p).1 rr1 re1 (w.later p (.refl _ _))
theorem ss_asg {tg : Expr} {t : Tg} {ie : IE} (he : SE X T E e (ev ρ ie)) (hg : SG X T tg t) (hs : swapsWithSole [tg] e pos.line X.env = pure false) (hw : swappedStores [tg] e X.env = pure none)
    (h1 : (assignEach [tg] X.env).map (·.2) = [assign tg X.env]) : SS X T E (.Assign [tg] e pos) (fS ρ (.asg t ie)) := by
  obtain ⟨te, pe, he⟩ := he
  obtain ⟨g, pg, hg⟩ := hg
  refine ⟨_, ps_asg pe pg hs hw h1, fun lk ro env σ s L D k rr re w => ?_⟩
  simp only [fS, evS] at w
  refine he ro env σ s L _ k rr re (WantS.bind w (Post.refl k) (.refl _ _) fun x env1 v s1 t1 p1 e1 r1 w1 => ?_)
  obtain ⟨k1, d1⟩ := k.post p1
  cases q : asgT lk t x ro env1 with
  | none => rw [q] at w1; exact w1.elim
  | some pr =>
    obtain ⟨ro', env'⟩ := pr
    rw [q] at w1
    exact hg lk ro env1 ro' env' σ s s1 L t1 emp x v _ k (p1.less ((Sub.refl _).join (.emp _))) (.emp' _) (rr.up p1.zz) e1 r1 q fun σ' s' p' z' rr' re' ag lkk => w1 σ' s' p' rr' re' ⟨ag.len, lkk⟩
theorem ss_expr {ie : IE} (he : SE X T E e (ev ρ ie)) (hs : swapsWith e none pos.line X.env = pure false) : SS X T E (.Expr e pos) (fS ρ (.expr ie)) := by
  obtain ⟨te, pe, he⟩ := he
  refine ⟨_, ps_expr pe hs, fun lk ro env σ s L D k rr re w => ?_⟩
  simp only [fS, evS] at w
  exact he ro env σ s L _ k rr re (WantS.bind w (Post.refl k) (.refl _ _) fun x env1 v s1 t1 p1 e1 r1 w1 => w1 σ s1 p1.bare (rr.up p1.zz) e1 (.refl _ _))
theorem ss_ret {ie : IE} (he : SE X T E e (ev ρ ie)) : SS X T E (.Return (some e) pos) (fS ρ (.ret ie)) := by
  obtain ⟨te, pe, he⟩ := he
  refine ⟨_, ps_ret pe, fun lk ro env σ s L D k rr re w => ?_⟩
  simp only [fS, evS] at w
  refine he ro env σ s L _ k rr re (WantS.bind w (Post.refl k) (.refl _ _) fun x env1 v s1 t1 p1 e1 r1 w1 => ?_)
  split at w1
  · exact w1.elim
  · rename_i hl
    exact w1 v σ s1 t1 p1 e1 (.refl _ _) (r1.keep (by simpa using hl))
theorem ss_retn : SS X T E (.Return none pos) (fS ρ .retn) := ⟨_, ps_retN, fun lk ro env σ s L D k rr re w => by
  simp only [fS, evS] at w
  exact w .non σ s emp (Post.refl k) re (.refl _ _) .non⟩
theorem ss_brk : SS X T E (.Break pos) (fS ρ .brk) := ⟨_, ps_break, fun lk ro env σ s L D k rr re w => by
  simp only [fS, evS] at w
  exact w σ s (Post.refl k) rr re (.refl _ _)⟩
theorem ss_cnt : SS X T E (.Continue pos) (fS ρ .cnt) := ⟨_, ps_continue, fun lk ro env σ s L D k rr re w => by
  simp only [fS, evS] at w
  exact w σ s (Post.refl k) rr re (.refl _ _)⟩
theorem ss_pass : SS X T E (.Pass pos) (fS ρ .pass) := ⟨_, ps_pass, fun lk ro env σ s L D k rr re w => by
  simp only [fS, evS] at w
  exact w σ s (Post.refl k) rr re (.refl _ _)⟩
theorem ss_doc {x j pos'} : SS X T E (.Expr (.Constant (.str x) j pos) pos') (fS ρ .pass) := ⟨_, ps_doc, fun lk ro env σ s L D k rr re w => by
  simp only [fS, evS] at w
  exact w σ s (Post.refl k) rr re (.refl _ _)⟩
theorem ss_bad {st : Stmt} : SS X T E st (fS ρ .bad) := ⟨_, ps_never, fun lk ro env σ s L D k rr re w => by
  simp only [fS, evS] at w
  exact w⟩
theorem ss_ifs {c : Expr} {ic : IT} {sa sb : List Stmt} {ia ib : List IS} (hc : ST X T E c (evT ρ ic)) (ha : SSs X T E sa (fSs ρ ia)) (hb : SSs X T E sb (fSs ρ ib)) : SS X T E (.If c sa sb pos) (fS ρ (.ifs ic ia ib)) := by
  obtain ⟨tc, pc, hc⟩ := hc
  obtain ⟨ta, pa, ha⟩ := ha
  obtain ⟨tb, pb, hb⟩ := hb
  refine ⟨_, ps_if pc pa pb, fun lk ro env σ s L D k rr re w => ?_⟩
  simp only [fS, evS] at w
  refine hc ro env σ s L _ k rr re (WantS.bind w (Post.refl k) (.refl _ _) fun x env1 v s1 t1 p1 e1 r1 w1 => ?_)
  obtain ⟨k1, d1⟩ := k.post p1
  subst r1
  split
  · rename_i hk
    rw [if_pos hk] at w1
    exact ha lk ro env1 σ s1 L D k1 (rr.up p1.zz) e1 (w1.later p1 (.refl _ _))
  · rename_i hk
    rw [if_neg hk] at w1
    exact hb lk ro env1 σ s1 L D k1 (rr.up p1.zz) e1 (w1.later p1 (.refl _ _))
theorem ss_fors {tg it : Expr} {t : Tg} {ii : It} {body : List Stmt} {ib : List IS} (c : Ctx X T) (hp : PassesOwn (model X.prog X.w) X.A X.env X.xe) (hi : SI X T E tg it (evIt ρ ii)) (hg : SG X T tg t) (hb : SSs X T E body (fSs ρ ib))
    (hs : ∀ x, foldedSetIterable it X.env x = pure x) : SS X T E (.For tg it body [] pos) (fS ρ (.fors t ii ib)) := by
  obtain ⟨wi, pi, hi⟩ := hi
  obtain ⟨g, pg, hg⟩ := hg
  obtain ⟨tb, pb, hb⟩ := hb
  refine ⟨_, ps_for hp c.calm pi pg pb hs, fun lk ro env σ s L D k rr re w => ?_⟩
  simp only [fS, evS] at w
  refine hi ro env σ s L _ k rr re (WantS.bind w (Post.refl k) (.refl _ _) fun items env1 J s1 t1 p1 e1 gv w1 => ?_)
  obtain ⟨k1, d1⟩ := k.post p1
  refine ⟨fun i m σi H => ∃ (si : Sx) (roi envi : Env), m = items.length - i ∧ i ≤ items.length ∧ si.H = H ∧ Post s1 si emp ∧ EnvR T si.Z L emp roi σi ∧ EnvR T si.Z emp si.E envi σi ∧ Kp lk σ σi ∧
    WantS T L lk σ s (forL (asgT lk t) (evSs ρ lk ib) (items.drop i) roi envi) D E,
    ⟨items.length, s1, ro, env1, by simp, Nat.zero_le _, rfl, Post.refl k1, rr.up p1.zz, e1, .refl _ _, w1⟩, ?_⟩
  rintro i m σi H ⟨si, roi, envi, rfl, hile, rfl, pi', rri, rei, kpi, wi'⟩
  obtain ⟨ki, _⟩ := k1.post pi'
  have ft1 := p1.with pi'
  obtain ⟨g1, g2⟩ := gv si ki pi'.zz ft1.1 i
  by_cases hlt : i < items.length
  · obtain ⟨w0, hw0⟩ : ∃ w0, items[i]? = some w0 := ⟨_, List.getElem?_eq_getElem hlt⟩
    obtain ⟨go, yl⟩ := g2 w0 hw0
    have hdrop : items.drop i = w0 :: items.drop (i + 1) := by
      have := List.getElem?_eq_some_iff.mp hw0
      obtain ⟨_, rfl⟩ := this
      rw [List.drop_eq_getElem_cons hlt]
    rw [hdrop, forL] at wi'
    refine .inr ⟨go, fun σ' H' => ∃ (si : Sx) (roi envi : Env), si.H = H' ∧ Post s1 si emp ∧ EnvR T si.Z L emp roi σ' ∧ EnvR T si.Z emp si.E envi σ' ∧ Kp lk σ σ' ∧
      WantS T L lk σ s (forL (asgT lk t) (evSs ρ lk ib) (items.drop (i + 1)) roi envi) D E, fun σ' H' ⟨si, roi, envi, h1, h2, h3, h4, h5, h6⟩ => ⟨items.length - (i + 1), by omega, si, roi, envi, rfl, hlt, h1, h2, h3, h4, h5, h6⟩, fun x H' y => ?_⟩
    obtain ⟨s2, rfl, p2, e2, r2⟩ := yl x H' y
    obtain ⟨k2, _⟩ := ki.post p2
    cases has : asgT lk t w0 roi envi with
    | none => rw [has] at wi'; exact wi'.elim
    | some pr =>
      obtain ⟨ro3, env3⟩ := pr
      rw [has] at wi'
      dsimp only at wi'
      refine hg lk roi envi ro3 env3 σi si s2 L emp emp w0 x _ ki (p2.less ((Sub.emp _).join (.emp _))) (.emp _) (rri.up p2.zz) (by rw [e2]; exact rei.up p2.zz) r2 has fun σ3 s3 p3 z3 rr3 re3 ag lk3 => ?_
      have p13 := pi'.trans p3
      have k3 := (k1.post p13).1
      have kp3 : Kp lk σ σ3 := kpi.trans ⟨ag.len, lk3⟩
      refine hb lk ro3 env3 σ3 s3 L _ k3 rr3 re3 ?_
      simp only [fSs]
      cases q : evSs ρ lk ib ro3 env3 with
      | bad => rw [q] at wi'; exact wi'
      | nx ro4 env4 =>
        rw [q] at wi'
        exact fun σ4 s4 p4 a4 b4 kp4 => ⟨s4, ro4, env4, rfl, p13.trans p4, a4, b4, kp3.trans kp4, wi'⟩
      | ct ro4 env4 =>
        rw [q] at wi'
        exact fun σ4 s4 p4 a4 b4 kp4 => ⟨s4, ro4, env4, rfl, p13.trans p4, a4, b4, kp3.trans kp4, wi'⟩
      | bk ro4 env4 =>
        rw [q] at wi'
        exact fun σ4 s4 p4 a4 b4 kp4 => wi' σ4 s4 (p1.trans (p13.trans p4)) a4 b4 (kp3.trans kp4)
      | rt x env4 =>
        rw [q] at wi'
        exact fun v σ4 s4 t4 p4 b4 kp4 r4 => wi' v σ4 s4 t4 (p1.trans (p13.trans p4)) b4 (kp3.trans kp4) r4
      | ex c x env4 =>
        rw [q] at wi'
        exact fun cls d σ4 s4 p4 b4 kp4 r4 => wi' cls d σ4 s4 (p1.trans (p13.trans p4)) b4 (kp3.trans kp4) r4
  · have hi' : items.length ≤ i := by omega
    rw [List.drop_eq_nil_of_le hi', forL] at wi'
    exact .inl ⟨g1 hi', wi' σi si (p1.trans pi') rri rei kpi⟩
theorem ss_whl {c : Expr} {ic : IT} {body : List Stmt} {ib : List IS} (hp : PassesOwn (model X.prog X.w) X.A X.env X.xe) (hc : ST X T E c (evT ρ ic)) (hb : SSs X T E body (fSs ρ ib)) : SS X T E (.While c body [] pos) (fS ρ (.whl ic ib)) := by
  obtain ⟨tc, pc, hc⟩ := hc
  obtain ⟨tb, pb, hb⟩ := hb
  refine ⟨_, ps_while hp pc pb, fun lk ro env σ s L D k rr re w => ?_⟩
  simp only [fS, evS] at w
  generalize wFuel = n at w
  refine ⟨fun m σi H => ∃ (si : Sx) (roi envi : Env), si.H = H ∧ Post s si emp ∧ EnvR T si.Z L emp roi σi ∧ EnvR T si.Z emp si.E envi σi ∧ Kp lk σ σi ∧ WantS T L lk σ s (whlL (evT ρ ic) (evSs ρ lk ib) m roi envi) D E,
    ⟨n, s, ro, env, rfl, Post.refl k, rr, re, .refl _ _, w⟩, ?_⟩
  rintro m σi H ⟨si, roi, envi, rfl, pi', rri, rei, kpi, wi'⟩
  obtain ⟨ki, _⟩ := k.post pi'
  cases m with
  | zero => rw [whlL] at wi'; exact wi'.elim
  | succ m =>
    rw [whlL] at wi'
    refine hc roi envi σi si L _ ki rri rei (WantS.bind wi' pi' kpi fun x env1 v s1 t1 p1 e1 r1 w1 => ?_)
    obtain ⟨k1, _⟩ := ki.post p1
    subst r1
    have p01 := pi'.trans p1
    split
    · rename_i hk
      rw [if_pos hk] at w1
      refine ⟨fun σ' H' => ∃ (si : Sx) (roi envi : Env), si.H = H' ∧ Post s si emp ∧ EnvR T si.Z L emp roi σ' ∧ EnvR T si.Z emp si.E envi σ' ∧ Kp lk σ σ' ∧ WantS T L lk σ s (whlL (evT ρ ic) (evSs ρ lk ib) m roi envi) D E,
        fun σ' H' h => ⟨m, Nat.lt_succ_self _, h⟩, ?_⟩
      refine hb lk roi env1 σi s1 L _ k1 (rri.up p1.zz) e1 ?_
      simp only [fSs]
      cases q : evSs ρ lk ib roi env1 with
      | bad => rw [q] at w1; exact w1
      | nx ro4 env4 =>
        rw [q] at w1
        exact fun σ4 s4 p4 a4 b4 kp4 => ⟨s4, ro4, env4, rfl, p01.trans p4, a4, b4, kpi.trans kp4, w1⟩
      | ct ro4 env4 =>
        rw [q] at w1
        exact fun σ4 s4 p4 a4 b4 kp4 => ⟨s4, ro4, env4, rfl, p01.trans p4, a4, b4, kpi.trans kp4, w1⟩
      | bk ro4 env4 =>
        rw [q] at w1
        exact fun σ4 s4 p4 a4 b4 kp4 => w1 σ4 s4 (p01.trans p4) a4 b4 (kpi.trans kp4)
      | rt x env4 =>
        rw [q] at w1
        exact fun v σ4 s4 t4 p4 b4 kp4 r4 => w1 v σ4 s4 t4 (p01.trans p4) b4 (kpi.trans kp4) r4
      | ex c x env4 =>
        rw [q] at w1
        exact fun cls d σ4 s4 p4 b4 kp4 r4 => w1 cls d σ4 s4 (p01.trans p4) b4 (kpi.trans kp4) r4
    · rename_i hk
      rw [if_neg hk] at w1
      exact w1 σi s1 p01.bare (rri.up p1.zz) e1 kpi
theorem keepRo_at {ks : List Nat} {ro : Env} {i : Nat} {w : W} (h : (keepRo ks ro)[i]? = some (some w)) : ks.contains i = true ∧ ro[i]? = some (some w) := by
  unfold keepRo at h
  rw [List.getElem?_mapIdx] at h
  cases q : ro[i]? with
  | none => rw [q] at h; cases h
  | some o =>
    rw [q] at h
    simp only [Option.map_some] at h
    split at h
    · rename_i hc
      exact ⟨hc, by rw [Option.some.inj h]⟩
    · cases h
theorem EnvR.thin : ∀ {Z L h : Hp} {env env' : Env} {σ : St}, EnvR T Z L h env σ → env'.length = env.length → (∀ (i : Nat) w, env'[i]? = some (some w) → env[i]? = some (some w)) → EnvR T Z L h env' σ
  | _, _, _, _, [], _, .nil, _, _ => .nil
  | _, _, _, _, _ :: _, _, .nil, l, _ => by simp at l
  | _, _, _, _, [], _, .non e, l, _ => by simp at l
  | _, _, _, _, none :: r, _, .non e, l, q => .non (e.thin (by simpa using l) fun i w hi => by simpa using q (i + 1) w (by simpa using hi))
  | _, _, _, _, some x :: r, _, .non e, l, q => by have := q 0 x rfl; simp at this
  | _, _, _, _, [], _, .som _ _ _ _ _, l, _ => by simp at l
  | _, _, _, _, none :: r, _, .som _ e _ b _, l, q => .non ((e.thin (by simpa using l) fun i w hi => by simpa using q (i + 1) w (by simpa using hi)).wid b)
  | _, _, _, _, some x :: r, _, .som rr e a b d, l, q => by
    have h0 := q 0 x rfl
    have : _ = x := Option.some.inj (Option.some.inj (by simpa using h0))
    subst this
    exact .som rr (e.thin (by simpa using l) fun i w hi => by simpa using q (i + 1) w (by simpa using hi)) a b d
theorem keepRo_ok {ks : List Nat} {ro : Env} {σ σ' : St} {h : Hp} (e : EnvR T Z L h ro σ) (l : σ'.length = σ.length) (q : ∀ i ∈ ks, σ'[i]? = σ[i]?) : EnvR T Z L h (keepRo ks ro) σ' :=
  EnvR.loose (e.thin (env' := keepRo ks ro) (by unfold keepRo; simp) fun i w hi => (keepRo_at hi).2) l fun i ⟨w, hw⟩ => q i (by simpa using (keepRo_at hw).1)
theorem ss_lend {xs ks : List Nat} {i : IS} {st : Stmt} (h : SS X T E st (fS ρ i)) : SS X T E st (fS ρ (.lend xs ks i)) := by
  obtain ⟨t, ps, h⟩ := h
  refine ⟨t, ps, fun lk ro env σ s L D k rr re w => ?_⟩
  simp only [fS, evS] at w
  obtain ⟨l, E', a1, a2, a3, a4, a5, a6, a7⟩ := lendE_ok xs k rr re (by rw [rr.len, re.len])
  rcases q : lendE env ro xs with ⟨env1, ro1⟩
  rw [q] at w a4 a5
  refine h (lk ++ ks ++ xs) ro1 env1 σ ⟨s.Z, E', s.H⟩ (join L l) D (k.lend a1 a2 a3) a4 a5 ?_
  dsimp only at w
  simp only [fS]
  have hx : ∀ {σ' : St}, Kp (lk ++ ks ++ xs) σ σ' → ∀ x ∈ xs, σ'[x]? = σ[x]? := fun kp x hx => kp.at_ x (by simp [hx])
  have hk : ∀ {σ' : St}, Kp (lk ++ ks ++ xs) σ σ' → Kp lk σ σ' := fun kp => kp.mono fun i hi => by simp [hi]
  have hr : ∀ {σ' : St} {Z' : Hp}, Sub s.Z Z' → Kp (lk ++ ks ++ xs) σ σ' → EnvR T Z' L emp (keepRo (lk ++ ks) ro) σ' := fun z kp => keepRo_ok (rr.up z) kp.len fun i hi => kp.at_ i (by simp at hi ⊢; rcases hi with hi | hi <;> simp [hi])
  cases q2 : evS ρ (lk ++ ks ++ xs) i ro1 env1 with
  | bad => rw [q2] at w; exact w
  | nx ro2 env2 =>
    rw [q2] at w
    exact fun σ' s' p _ e kp => w σ' ⟨s'.Z, join l s'.E, s'.H⟩ (p.unlend k.eh k.ze a1 a2 a3) (hr p.zz kp) (a7 _ _ _ _ (hx kp) p.zz (Dj.fr k.eh k.ze a1 a3 p) e) (hk kp)
  | bk ro2 env2 =>
    rw [q2] at w
    exact fun σ' s' p _ e kp => w σ' ⟨s'.Z, join l s'.E, s'.H⟩ (p.unlend k.eh k.ze a1 a2 a3) (hr p.zz kp) (a7 _ _ _ _ (hx kp) p.zz (Dj.fr k.eh k.ze a1 a3 p) e) (hk kp)
  | ct ro2 env2 =>
    rw [q2] at w
    exact fun σ' s' p _ e kp => w σ' ⟨s'.Z, join l s'.E, s'.H⟩ (p.unlend k.eh k.ze a1 a2 a3) (hr p.zz kp) (a7 _ _ _ _ (hx kp) p.zz (Dj.fr k.eh k.ze a1 a3 p) e) (hk kp)
  | rt x env2 =>
    rw [q2] at w
    exact fun v σ' s' t' p e kp r => w v σ' ⟨s'.Z, join l s'.E, s'.H⟩ t' (p.unlend k.eh k.ze a1 a2 a3) (a7 _ _ _ _ (hx kp) p.zz (Dj.fr k.eh k.ze a1 a3 p) e) (hk kp) r
  | ex c x env2 =>
    rw [q2] at w
    exact fun cls d σ' s' p e kp r => w cls d σ' ⟨s'.Z, join l s'.E, s'.H⟩ (p.unlend k.eh k.ze a1 a2 a3) (a7 _ _ _ _ (hx kp) p.zz (Dj.fr k.eh k.ze a1 a3 p) e) (hk kp) r
end
end VL
set_option Elab.async false
set_option linter.all false
set_option maxRecDepth 100000
set_option maxHeartbeats 1000000
namespace VL
open PySem L2
/-! ## a node changed -/
structure Sw (H h H' hx tr : Hp) : Prop where
  sx : Sub hx H'
  st : Sub tr H'
  dj : Dj hx tr
  fr : ∀ g, Sub g H → Dj g h → Sub g H' ∧ Dj g hx ∧ Dj g tr
theorem Sw.upd {H h hx tr : Hp} {a : Addr} {o0 o : HO} (ha : h a = some o0) (sh : Sub h H) (h1 : Sub hx (L2.upd h a o)) (h2 : Sub tr h) (h3 : tr a = none) (d : Dj hx tr) : Sw H h (L2.upd H a o) hx tr :=
  ⟨h1.trans (Sub.updb sh), (h2.trans sh).upd h3, d, fun g sg dg => by
    have ga : g a = none := dg.symm.at ha
    refine ⟨sg.upd ga, fun b => ?_, dg.subr h2⟩
    rcases dg b with e | e
    · exact .inl e
    · by_cases z : b = a
      · subst z; exact .inl ga
      · refine .inr (h1.none ?_)
        rw [upd_ne z]; exact e⟩
def OpM (T : Tb) (r : V → List V → Hp → VK → Prop) (m : Mut) : Prop := ∀ (Z L H hx t : Hp) (x x' w : W) (ws : List W) (v : V) (vs : List V) (Q : VK), Sub Z H → Sub L H → Sub hx H → Sub t H → Dj hx t → Dj hx Z → Dj t Z →
  Rep T Z emp hx x v → Reps T Z L t ws vs → mutF m x ws = some (x', w) → (∀ vr H' hx' tr, Sw H (join hx t) H' hx' tr → Rep T Z emp hx' x' v → Rep T Z emp tr w vr → Q vr H') → r v vs H Q
section
variable {X : Cx} {T : Tb} {E : XK} {ρ : Nat → Fn} {e a b : Expr} {pos p : Pos} {Z L : Hp} {lk : List Nat} {σ : St} {s : Sx} {D : Ends}
theorem Reps.one1 {t : Hp} {w : W} {vs : List V} (r : Reps T Z L t [w] vs) : ∃ v, vs = [v] ∧ Rep T Z L t w v := by
  cases r with
  | cons r t a b d => cases t; exact ⟨_, rfl, r.wid a⟩
theorem Reps.two2 {t : Hp} {w1 w2 : W} {vs : List V} (r : Reps T Z L t [w1, w2] vs) : ∃ v1 v2 t1 t2, vs = [v1, v2] ∧ Rep T Z L t1 w1 v1 ∧ Rep T Z L t2 w2 v2 ∧ Sub t1 t ∧ Sub t2 t ∧ Dj t1 t2 := by
  cases r with
  | cons r t a b d =>
    obtain ⟨v, rfl, r'⟩ := t.one1
    exact ⟨_, _, _, _, rfl, r, r', a, b, d⟩
theorem Reps.nil' {t : Hp} {vs : List V} (r : Reps T Z L t [] vs) : vs = [] := by cases r; rfl
/-- an owned list's parts -/
theorem Rep.lst_own {h : Hp} {ws : List W} {v : V} (r : Rep T Z L h (.lst .own ws) v) : ∃ a vs hc, v = .ref a ∧ h a = some (.lst vs) ∧ Sub hc h ∧ hc a = none ∧ Reps T Z L hc ws vs := by
  cases r with
  | lst q k n r => exact ⟨_, _, _, rfl, q, k.sub, n, r⟩
theorem Rep.own_lst {h hc : Hp} {ws : List W} {a : Addr} {vs : List V} (q : h a = some (.lst vs)) (k : Sub hc h) (n : hc a = none) (r : Reps T Z L hc ws vs) : Rep T Z L h (.lst .own ws) (.ref a) := .lst (m := .own) q ⟨k, fun z => absurd rfl z⟩ n r
theorem Rep.dct_own {h : Hp} {kvs : List (Key × W)} {v : V} (r : Rep T Z L h (.dct .own kvs) v) : ∃ a vs hc, v = .ref a ∧ h a = some (.dK vs) ∧ Sub hc h ∧ hc a = none ∧ kvs.map (·.1) = vs.map (·.1) ∧ (kvs.map (·.1)).Nodup ∧ Reps T Z L hc (kvs.map (·.2)) (vs.map (·.2)) := by
  cases r with
  | dct q k n ek nd r => exact ⟨_, _, _, rfl, q, k.sub, n, ek, nd, r⟩
theorem Rep.own_dct {h hc : Hp} {kvs : List (Key × W)} {a : Addr} {vs : List (Key × V)} (q : h a = some (.dK vs)) (k : Sub hc h) (n : hc a = none) (ek : kvs.map (·.1) = vs.map (·.1)) (nd : (kvs.map (·.1)).Nodup) (r : Reps T Z L hc (kvs.map (·.2)) (vs.map (·.2))) : Rep T Z L h (.dct .own kvs) (.ref a) :=
  .dct (m := .own) q ⟨k, fun z => absurd rfl z⟩ n ek nd r
theorem reps_app : ∀ {ta tb : Hp} {ws ws' : List W} {vs vs' : List V}, Reps T Z L ta ws vs → Reps T Z L tb ws' vs' → Dj ta tb → Reps T Z L (join ta tb) (ws ++ ws') (vs ++ vs')
  | _, _, _, _, _, _, .nil, t, d => t.wid (.joinr d)
  | _, _, _, _, _, _, .cons r0 t0 a b d0, r, d => .cons r0 (reps_app t0 r (d.subl b)) (a.trans (.joinl _ _)) ((b.trans (.joinl _ _)).join (.joinr d)) (d0.joinr (d.subl a))
theorem join_none {h g : Hp} {a : Addr} (x : h a = none) (y : g a = none) : join h g a = none := by unfold join; rw [x, y]; rfl
theorem upd_join {h hx t : Hp} {a : Addr} {o : HO} (h1 : Sub h hx) (h2 : h a = none) : Sub h (upd (join hx t) a o) := (h1.trans (.joinl _ _)).upd h2
theorem om_append : OpM T rAppend .append := fun Z L H hx t x x' w ws v vs Q zh lh xh th d dz tz rx rw e q => by
  unfold mutF at e
  split at e <;> try (cases e; done)
  all_goals rename_i heq <;> try (cases heq; done)
  obtain ⟨e1, e2⟩ := opt_some e
  cases e2
  simp only [Bool.and_eq_true, Bool.not_eq_true', decide_eq_true_eq] at e1
  obtain ⟨y, rfl, ry⟩ := rw.one1
  obtain ⟨a, us, hc, rfl, ha, sc, ca, rc⟩ := rx.lst_own
  refine ⟨a, us, y, rfl, rfl, xh _ _ ha, by rw [← rc.length, ← sz_eq]; exact e1.2, ?_⟩
  have ry' : Rep T Z emp t _ y := ry.keep (by simpa using e1.1)
  have ta : t a = none := d.at ha
  have dc : Dj hc t := d.subl sc
  have n : (join hc t) a = none := join_none ca ta
  refine q _ _ (upd (join hc t) a (.lst (us ++ [y]))) emp (Sw.upd (o0 := .lst us) (Sub.joinl _ _ _ _ ha) (xh.join th) (Sub.updb ((sc.trans (.joinl _ _)).join (.joinr d))) (.emp _) rfl (.emp' _)) ?_ .non
  exact .own_lst upd_same ((Sub.refl _).upd n) n (reps_snoc rc ry' dc)
theorem Reps.erase : ∀ {h : Hp} {ws : List W} {vs : List V} {i : Nat} {w : W}, Reps T Z L h ws vs → ws[i]? = some w → ∃ v h1 h2, vs[i]? = some v ∧ Rep T Z L h1 w v ∧ Reps T Z L h2 (ws.eraseIdx i) (vs.eraseIdx i) ∧ Sub h1 h ∧ Sub h2 h ∧ Dj h1 h2 ∧
    ∀ (h3 : Hp) (w' : W) (v' : V), Rep T Z L h3 w' v' → Dj h3 h2 → Reps T Z L (join h3 h2) (ws.set i w') (vs.set i v')
  | _, _, _, _, _, .nil, e => by simp at e
  | _, _, _, 0, _, .cons r t a b d, e => by
    have := Option.some.inj (by simpa using e); subst this
    exact ⟨_, _, _, rfl, r, t, a, b, d, fun h3 w' v' r' d' => .cons r' t (.joinl _ _) (.joinr d') d'⟩
  | _, _, _, i + 1, _, .cons (h1 := k1) (h2 := k2) r t a b d, e => by
    obtain ⟨v, h1, h2, x1, x2, x3, x4, x5, x6, x7⟩ := t.erase (i := i) (by simpa using e)
    refine ⟨v, h1, join k1 h2, by simpa using x1, x2, .cons r x3 (.joinl _ _) (.joinr (d.subr x5)) (d.subr x5), x4.trans b, a.join (x5.trans b), (d.symm.subl x4).joinr x6, fun h3 w' v' r' d' => ?_⟩
    have d1 : Dj h3 k1 := d'.subr (.joinl _ _)
    have d2 : Dj h3 h2 := d'.subr (.joinr (d.subr x5))
    exact .cons r (x7 h3 w' v' r' d2) ((Sub.joinl k1 h2).trans (.joinr d')) ((Sub.joinl h3 _).join ((Sub.joinr (d.subr x5)).trans (.joinr d'))) (d1.symm.joinr (d.subr x5))
theorem om_pop_core {hx t H : Hp} {a : Addr} {us : List V} {hc : Hp} {ws : List W} {i : Nat} {w : W} {Q : VK} (xh : Sub hx H) (th : Sub t H) (d : Dj hx t) (ha : hx a = some (.lst us)) (sc : Sub hc hx) (ca : hc a = none) (rc : Reps T Z emp hc ws us) (hw : ws[i]? = some w)
    (q : ∀ vr H' hx' tr, Sw H (join hx t) H' hx' tr → Rep T Z emp hx' (.lst .own (ws.eraseIdx i)) (.ref a) → Rep T Z emp tr w vr → Q vr H') : ∃ y, us[i]? = some y ∧ Q y (upd H a (.lst (us.eraseIdx i))) := by
  obtain ⟨y, h1, h2, x1, x2, x3, x4, x5, x6, _⟩ := rc.erase hw
  have n2 : h2 a = none := x5.none ca
  have n1 : h1 a = none := x4.none ca
  refine ⟨y, x1, q _ _ (upd h2 a (.lst (us.eraseIdx i))) h1 (Sw.upd (o0 := .lst us) (Sub.joinl _ _ _ _ ha) (xh.join th) (Sub.updb ((x5.trans sc).trans (.joinl _ _))) ((x4.trans sc).trans (.joinl _ _)) n1 (x6.symm.upd n1)) ?_ x2⟩
  exact .own_lst upd_same ((Sub.refl _).upd n2) n2 x3
def rPopAll : V → List V → Hp → VK → Prop := fun x vs H Q => rPop x vs H Q ∨ rPopAt x vs H Q
theorem om_pop : OpM T rPopAll .pop := fun Z L H hx t x x' w ws v vs Q zh lh xh th d dz tz rx rw e q => by
  unfold mutF at e
  split at e <;> try (cases e; done)
  all_goals rename_i heq <;> try (cases heq; done)
  · obtain ⟨k, hk, e⟩ := Option.bind_eq_some_iff.mp e
    obtain ⟨y, hy, e⟩ := Option.bind_eq_some_iff.mp e
    obtain ⟨e1, e2⟩ := opt_some e
    cases e2
    simp only [Bool.and_eq_true, decide_eq_true_eq] at e1
    obtain ⟨y', rfl, ry⟩ := rw.one1
    cases ry
    obtain ⟨a, us, hc, rfl, ha, sc, ca, rc⟩ := rx.lst_own
    obtain ⟨yv, hyv, q'⟩ := om_pop_core xh th d ha sc ca rc hy q
    exact .inr ⟨a, us, _, k, yv, rfl, rfl, xh _ _ ha, by omega, by omega, by rw [← rc.length]; exact hk, hyv, q'⟩
  · obtain ⟨y, hy, e⟩ := Option.bind_eq_some_iff.mp e
    cases e
    have := rw.nil'; subst this
    obtain ⟨a, us, hc, rfl, ha, sc, ca, rc⟩ := rx.lst_own
    obtain ⟨yv, hyv, q'⟩ := om_pop_core xh th d ha sc ca rc hy q
    rw [rc.length] at hyv q'
    refine .inl ⟨a, us, yv, rfl, rfl, xh _ _ ha, hyv, ?_⟩
    have : us.dropLast = us.eraseIdx (us.length - 1) := by rw [List.eraseIdx_length_sub_one]
    rw [this]; exact q'
/-- list.extend by whoever's list -/
def rExtendR : V → List V → Hp → VK → Prop := fun x vs H Q => ∃ l b xs zs, x = .ref l ∧ vs = [.ref b] ∧ H l = some (.lst xs) ∧ Rd H b (.lst zs) ∧ xs.length + zs.length ≤ sizeLine ∧ Q .non (upd H l (.lst (xs ++ zs)))
theorem mt_extendR : MtM X "list.extend" rExtendR := by
  intro pins st σ H x vs v us Q I rx rv hw
  obtain ⟨l, b, xs, zs, rfl, rfl, hH, hB, hz, q⟩ := hw
  cases rx
  obtain ⟨u, rfl, ru⟩ := rv.one
  cases ru
  obtain ⟨z1, i1, n1, r1, l1, e1⟩ := I.lstM hH
  obtain ⟨z2, i2, n2, r2, e2⟩ := lst_obj I hB
  have l2 := r2.length
  have hsz : i1.toArray.size + i2.toArray.size ≤ PySem.sizeLine := by rw [List.size_toArray, List.size_toArray]; omega
  refine PySem.call_meets PySem.F.slot_list_extend ⟨_, e1, rfl⟩ PySem.F.entry_list_extend (PySem.F.args_list_extend_2 _ _)
    (PySem.AutoSeq1.list_extend_list_list_0 l i1.toArray n1 b i2.toArray n2 (by rw [notLongL hsz, Bool.and_false]; exact Bool.false_ne_true) (by rw [List.size_toArray]; omega) (by omega)) ⟨e1, e2, ?_⟩
  refine ⟨.non, _, I.lset (its' := i1 ++ i2) hH e1 (by simp) (r1.append r2) (by rw [List.length_append]; omega), rfl, q⟩
theorem Reps.keepL {L' : Hp} {h : Hp} {ws : List W} {vs : List V} (r : Reps T Z L h ws vs) (e : hasL Fl.isLnt ws = false) : Reps T Z L' h ws vs := r.keep e
theorem om_extend : OpM T rExtendR .extend := fun Z L H hx t x x' w ws v vs Q zh lh xh th d dz tz rx rw e q => by
  unfold mutF at e
  split at e <;> try (cases e; done)
  all_goals rename_i heq <;> try (cases heq; done)
  obtain ⟨e1, e2⟩ := opt_some e
  cases e2
  simp only [Bool.and_eq_true, Bool.not_eq_true', decide_eq_true_eq] at e1
  obtain ⟨y, rfl, ry⟩ := rw.one1
  obtain ⟨b, zs, hb, rfl, qb, rb, sb, _⟩ := ry.lst_inv zh lh th
  obtain ⟨a, us, hc, rfl, ha, sc, ca, rc⟩ := rx.lst_own
  refine ⟨a, b, us, zs, rfl, rfl, xh _ _ ha, qb, by rw [← rc.length, ← rb.length, ← sz_eq]; exact e1.2, ?_⟩
  have rb' : Reps T Z emp hb _ zs := rb.keepL e1.1
  have ta : hb a = none := sb.none (d.at ha)
  have dc : Dj hc hb := (d.subl sc).subr sb
  have n : (join hc hb) a = none := join_none ca ta
  refine q _ _ (upd (join hc hb) a (.lst (us ++ zs))) emp (Sw.upd (o0 := .lst us) (Sub.joinl _ _ _ _ ha) (xh.join th) (Sub.updb ((sc.trans (.joinl _ _)).join (sb.trans (.joinr d)))) (.emp _) rfl (.emp' _)) ?_ .non
  exact .own_lst upd_same ((Sub.refl _).upd n) n (reps_app rc rb' dc)
def rSet (t : V → V → V → Hp → (Hp → Prop) → Prop) : V → List V → Hp → VK → Prop := fun x vs H Q => ∃ i v, vs = [i, v] ∧ t x i v H fun H' => Q .non H'
def rSetA : V → V → V → Hp → (Hp → Prop) → Prop := fun o i v H Q => rSetL o i v H Q ∨ rSetD o i v H Q
theorem set_any (hu : X.A.units + 1 < cLine) : PSet X rSetA := fun pins s σ H o i v ov iv u Q I ro ri rv h => h.elim (set_list pins s σ H o i v ov iv u Q I ro ri rv) (set_dict hu pins s σ H o i v ov iv u Q I ro ri rv)
theorem om_setix : OpM T (rSet rSetA) .setix := fun Z L H hx t x x' w ws v vs Q zh lh xh th d dz tz rx rw e q => by
  unfold mutF at e
  split at e <;> try (cases e; done)
  all_goals rename_i heq <;> try (cases heq; done)
  rotate_left
  · obtain ⟨key, hk, e⟩ := Option.bind_eq_some_iff.mp e
    obtain ⟨e1, e2⟩ := opt_some e
    cases e2
    simp only [Bool.and_eq_true, Bool.not_eq_true', decide_eq_true_eq] at e1
    obtain ⟨kv, y, t1, t2, rfl, rk, ry, s1, s2, _⟩ := rw.two2
    have ev := keyOf_rep hk rk
    obtain ⟨a, us, hc, rfl, ha, sc, ca, ek, nd, rc⟩ := rx.dct_own
    have nv : (us.map (·.1)).Nodup := by rw [← ek]; exact nd
    have hlen := congrArg List.length ek
    rw [List.length_map, List.length_map] at hlen
    refine ⟨_, y, rfl, .inr ⟨a, _, rfl, .inl ⟨us, key, xh _ _ ha, ev, by rw [← hlen, ← sz_eq]; exact e1.2, rfl⟩, ?_⟩⟩
    rw [putK_eq nv]
    have ry' : Rep T Z emp t2 _ y := ry.keep (by simpa using e1.1)
    have d2 : Dj hx t2 := d.subr s2
    have ta : t2 a = none := d2.at ha
    have dh : Dj hc t2 := d2.subl sc
    have n : (join hc t2) a = none := join_none ca ta
    obtain ⟨z1, z2⟩ := setK_rep (k := key) ek rc ry' dh
    refine q _ _ (upd (join hc t2) a (.dK (setV key y us))) emp (Sw.upd (o0 := .dK us) (Sub.joinl _ _ _ _ ha) (xh.join th) (Sub.updb ((sc.trans (.joinl _ _)).join (s2.trans (.joinr d)))) (.emp _) rfl (.emp' _)) ?_ .non
    exact .own_dct upd_same ((Sub.refl _).upd n) n z1 (setK_nodup nd) z2
  obtain ⟨j, hj, e⟩ := Option.bind_eq_some_iff.mp e
  obtain ⟨e1, e2⟩ := opt_some e
  cases e2
  simp only [Bool.and_eq_true, Bool.not_eq_true', decide_eq_true_eq] at e1
  obtain ⟨k, y, t1, t2, rfl, rk, ry, s1, s2, _⟩ := rw.two2
  cases rk
  obtain ⟨a, us, hc, rfl, ha, sc, ca, rc⟩ := rx.lst_own
  refine ⟨_, y, rfl, .inl ⟨a, us, _, j, rfl, rfl, xh _ _ ha, by rw [← rc.length]; exact hj, ?_⟩⟩
  have ry' : Rep T Z emp t2 _ y := ry.keep (by simpa using e1.1)
  obtain ⟨_, h1, h2, _, _, _, x4, x5, x6, x7⟩ := rc.erase (List.getElem?_eq_getElem e1.2)
  have d2 : Dj hx t2 := d.subr s2
  have ta : t2 a = none := d2.at ha
  have n2 : h2 a = none := x5.none ca
  have dh : Dj t2 h2 := (d2.subl (x5.trans sc)).symm
  have n : (join t2 h2) a = none := join_none ta n2
  refine q _ _ (upd (join t2 h2) a (.lst (us.set j y))) emp (Sw.upd (o0 := .lst us) (Sub.joinl _ _ _ _ ha) (xh.join th) (Sub.updb ((s2.trans (.joinr d)).join ((x5.trans sc).trans (.joinl _ _)))) (.emp _) rfl (.emp' _)) ?_ .non
  exact .own_lst upd_same ((Sub.refl _).upd n) n (x7 _ _ _ ry' dh)
def rUpd : V → List V → Hp → VK → Prop := fun x vs H Q => ∃ a b us ms, x = .ref a ∧ vs = [.ref b] ∧ a ≠ b ∧ H a = some (.dK us) ∧ Rd H b (.dK ms) ∧ us.length + ms.length ≤ sizeLine ∧ Q .non (upd H a (.dK (mergeK us ms)))
theorem mt_upd : MtM X "dict.update" rUpd := by
  intro pins st σ H x vs v us Q I rx rv hw
  obtain ⟨a, b, ks, ms, rfl, rfl, hne, hA, hB, hz, q⟩ := hw
  cases rx
  obtain ⟨u, rfl, ru⟩ := rv.one
  cases ru
  obtain ⟨z1, hd1, xs, rel1, dd1⟩ := dk_of I.hok hA
  obtain ⟨z2, hd2, ys, rel2, dd2⟩ := dk_rd I.hok hB
  refine call_meetsIn PySem.F.slot_dict_update dd1.typeIs PySem.F.entry_dict_update (PySem.F.args_dict_update_2 _ _) (meets_dict_update (mixKind X.prog X.w) a b hne hd2)
    ⟨xs, ys, dd1, dd2, (by rw [← rel1.length, ← rel2.length]; exact hz), fun h' hmm _ hs => ?_⟩
  have hl : (mergeK ks ms).length ≤ sizeLine := by have := mergeK_len (ms := ms) (vs := ks); omega
  refine ⟨.non, _, d_write I (by rw [hA]; exact True.intro) hs (let ⟨q, _, _, hq, _⟩ := hmm; ⟨q, hq⟩) (dk_new hl hd1 (rel2.merge rel1) hmm), rfl, q⟩
theorem om_update : OpM T rUpd .update := fun Z L H hx t x x' w ws v vs Q zh lh xh th d dz tz rx rw e q => by
  unfold mutF at e
  split at e <;> try (cases e; done)
  all_goals rename_i heq <;> try (cases heq; done)
  obtain ⟨e1, e2⟩ := opt_some e
  cases e2
  simp only [Bool.and_eq_true, Bool.not_eq_true', decide_eq_true_eq] at e1
  obtain ⟨y, rfl, ry⟩ := rw.one1
  obtain ⟨b, ms, hb, rfl, qb, ekb, ndb, rb, sb⟩ := ry.dct_inv zh lh th
  obtain ⟨a, us, hc, rfl, ha, sc, ca, ek, nd, rc⟩ := rx.dct_own
  have l1 := congrArg List.length ek
  have l2 := congrArg List.length ekb
  rw [List.length_map, List.length_map] at l1 l2
  have hm := e1.1.2
  rw [hasK_eq] at hm
  have rb' := rb.pure hm emp
  have hne : a ≠ b := by
    intro z
    subst z
    cases ry with
    | dct q1 _ _ _ _ _ =>
      generalize ‹Fl› = mm at *
      cases mm with
      | own => exact absurd (d.at ha) (by rw [show t a = _ from q1]; simp)
      | frz =>
        have := dz.at ha
        rcases q1 with q1 | ⟨o, q1⟩ <;> rw [this] at q1 <;> cases q1
      | lnt => exact absurd e1.1.1 (by simp [Fl.isLnt])
  refine ⟨a, b, us, ms, rfl, rfl, hne, xh _ _ ha, qb, by rw [← l1, ← l2, ← sz_eq]; exact e1.2, ?_⟩
  obtain ⟨z1, z2, z3⟩ := merge_rep ek nd rc ekb rb'
  refine q _ _ (upd hc a (.dK (mergeK us ms))) emp (Sw.upd (o0 := .dK us) (Sub.joinl _ _ _ _ ha) (xh.join th) (Sub.updb (sc.trans (.joinl _ _))) (.emp _) rfl (.emp' _)) ?_ .non
  exact .own_dct upd_same ((Sub.refl _).upd ca) ca z1 z2 z3
/-! ## fields -/
theorem fs_focus {nm : Nat → Str} (inj : ∀ i j : Nat, nm i = nm j → i = j) : ∀ {g : Hp} {fs : List (Nat × W)} {vs : List (Str × V)} {f : Nat} {w : W}, (fs.map (·.1)).map nm = vs.map (·.1) → Reps T Z L g (fs.map (·.2)) (vs.map (·.2)) → fs.lookup f = some w →
    ∃ v h1 h2, vs.lookup (nm f) = some v ∧ Rep T Z L h1 w v ∧ Sub h1 g ∧ Sub h2 g ∧ Dj h1 h2 ∧ ∀ (Z' h1' : Hp) (w' : W), Sub Z Z' → Rep T Z' L h1' w' v → Dj h2 h1' →
      Reps T Z' L (join h2 h1') ((putW f w' fs).map (·.2)) (vs.map (·.2)) ∧ (putW f w' fs).map (·.1) = fs.map (·.1)
  | _, [], _, _, _, _, _, e => by simp at e
  | _, (i, x) :: fs, [], _, _, e, _, _ => by simp at e
  | g, (i, x) :: fs, (n, y) :: vs, f, w, e, r, l => by
    simp only [List.map_cons, List.cons.injEq] at e r
    cases r with
    | cons r1 r2 a b d =>
      rename_i k1 k2
      by_cases hf : f = i
      · subst hf
        simp only [List.lookup_cons, beq_self_eq_true] at l
        cases l
        refine ⟨y, k1, k2, by rw [← e.1]; simp [List.lookup_cons], r1, a, b, d, fun Z' h1' w' z r' d' => ?_⟩
        simp only [putW, if_true, List.map_cons]
        exact ⟨.cons r' (r2.up z) (.joinr d') (.joinl _ _) d'.symm, trivial⟩
      · have hf' : (f == i) = false := by simpa using hf
        simp only [List.lookup_cons, hf'] at l
        obtain ⟨v, h1, h2, x1, x2, x3, x4, x5, x6⟩ := fs_focus inj e.2 r2 l
        have hn : (nm f == n) = false := by
          rw [← e.1]
          simpa using fun z => hf (inj _ _ z)
        refine ⟨v, h1, join k1 h2, by rw [List.lookup_cons, hn]; exact x1, x2, x3.trans b, a.join (x4.trans b), (d.symm.subl x3).joinr x5, fun Z' h1' w' z r' d' => ?_⟩
        have hne : ¬ i = f := fun z => hf z.symm
        obtain ⟨y1, y2⟩ := x6 Z' h1' w' z r' (d'.subl (.joinr (d.subr x4)))
        simp only [putW, if_neg hne, List.map_cons]
        have d1 : Dj k1 h1' := d'.subl (.joinl _ _)
        exact ⟨.cons (r1.up z) y1 ((Sub.joinl k1 h2).trans (.joinl _ _)) (((Sub.joinr (d.subr x4)).trans (.joinl _ _)).join (.joinr d')) ((d.subr x4).joinr d1), by rw [y2]⟩
/-- fields read one after another -/
def rdP (T : Tb) (H : Hp) : V → List Ps → V → Prop
  | v, [], u => u = v
  | v, .k x :: r, u => ∃ a vs y, v = .ref a ∧ Rd H a (.dK vs) ∧ valV vs (.inr x) = some y ∧ rdP T H y r u
  | v, .f f :: r, u => ∃ a c dx vs y, v = .ref a ∧ H a = some (.ins (T.cl c) dx vs) ∧ vs.lookup (T.nm f) = some y ∧ rdP T H y r u
theorem rdP_mono {H H' : Hp} (h : Sub H H') : ∀ {fs : List Ps} {v u : V}, rdP T H v fs u → rdP T H' v fs u
  | [], _, _, e => e
  | .k _ :: _, _, _, ⟨a, vs, y, e1, e2, e3, e4⟩ => ⟨a, vs, y, e1, rd_sub h e2, e3, rdP_mono h e4⟩
  | .f _ :: _, _, _, ⟨a, c, dx, vs, y, e1, e2, e3, e4⟩ => ⟨a, c, dx, vs, y, e1, h _ _ e2, e3, rdP_mono h e4⟩
theorem rdP_snoc {H : Hp} {f : Ps} : ∀ {fs : List Ps} {v u : V}, rdP T H v (fs ++ [f]) u → ∃ y, rdP T H v fs y ∧ rdP T H y [f] u
  | [], _, _, e => ⟨_, rfl, e⟩
  | .k _ :: _, _, _, ⟨a, vs, y, e1, e2, e3, e4⟩ =>
    let ⟨z, q1, q2⟩ := rdP_snoc e4
    ⟨z, ⟨a, vs, y, e1, e2, e3, q1⟩, q2⟩
  | .f _ :: _, _, _, ⟨a, c, dx, vs, y, e1, e2, e3, e4⟩ =>
    let ⟨z, q1, q2⟩ := rdP_snoc e4
    ⟨z, ⟨a, c, dx, vs, y, e1, e2, e3, q1⟩, q2⟩
theorem Rep.focus : ∀ {h : Hp} {w x : W} {v : V} {fs : List Ps}, Rep T Z emp h w v → getP w fs = some x → ∃ u hx hr, rdP T h v fs u ∧ Rep T Z emp hx x u ∧ Sub hx h ∧ Sub hr h ∧ Dj hx hr ∧
    ∀ (Z' hx' : Hp) (x' w' : W), Sub Z Z' → Rep T Z' emp hx' x' u → Dj hr hx' → setP w fs x' = some w' → Rep T Z' emp (join hr hx') w' v
  | h, w, x, v, [], r, e => by
    rw [getP] at e; cases e
    refine ⟨v, h, emp, rfl, r, .refl _, .emp _, .emp' _, fun Z' hx' x' w' z r' d e' => ?_⟩
    rw [setP] at e'; cases e'
    exact r'.wid (.joinr d)
  | h, w, x, v, .k f :: fs, r, e => by
    unfold getP at e
    split at e <;> try (cases e; done)
    all_goals rename_i heq <;> try (cases heq; done)
    cases heq
    obtain ⟨y, hy, e'⟩ := Option.bind_eq_some_iff.mp e
    clear e
    obtain ⟨a, vs, hc, rfl, q1, sc, n1, ek, nd, rk⟩ := r.dct_own
    obtain ⟨yv, h1, h2, x1, x2, x3, x4, x5, x6⟩ := kfocus ek rk hy
    obtain ⟨u, hx, hr, y1, y2, y3, y4, y5, y6⟩ := x2.focus e'
    obtain ⟨O, hO⟩ : ∃ O, h a = some O := ⟨_, q1⟩
    have aN : hx a = none := (y3.trans x3).none n1
    refine ⟨u, hx, join (one a O) (join h2 hr), ⟨a, vs, yv, rfl, Rd.of q1, x1, rdP_mono (x3.trans sc) y1⟩, y2, y3.trans (x3.trans sc), ?_, ?_, ?_⟩
    · exact (Sub.one hO).join ((x4.trans sc).join (y4.trans (x3.trans sc)))
    · exact (Dj.one aN).symm.joinr ((x5.subl y3).joinr y5)
    · intro Z' hx' x' w' z r' d e'
      unfold setP at e'
      simp only [hy, Option.bind_some] at e'
      obtain ⟨w1, hw1, e'⟩ := Option.map_eq_some_iff.mp e'
      subst e'
      have o2 : Dj h2 hr := x5.symm.subr y4
      have n2 : h2 a = none := x4.none n1
      have nr : hr a = none := (y4.trans x3).none n1
      have d2 : Dj (join h2 hr) hx' := d.subl (.joinr ((Dj.one n2).joinr (Dj.one nr)))
      have dh2 : Dj h2 hx' := d2.subl (.joinl _ _)
      have dhr : Dj hr hx' := d2.subl (.joinr o2)
      have rr := y6 Z' hx' x' w1 z r' dhr hw1
      obtain ⟨z1, z2⟩ := x6 Z' _ w1 z rr (o2.joinr dh2)
      have b1 : Sub (join h2 hr) (join (one a O) (join h2 hr)) := .joinr ((Dj.one n2).joinr (Dj.one nr))
      have big : Sub (join h2 (join hr hx')) (join (join (one a O) (join h2 hr)) hx') :=
        (((Sub.joinl h2 hr).trans b1).trans (.joinl _ _)).join ((((Sub.joinr o2).trans b1).trans (.joinl _ _)).join (.joinr d))
      have aX : hx' a = none := d.at (a := a) (o := O) (Sub.joinl _ _ _ _ one_at)
      refine .own_dct (hc := join h2 (join hr hx')) (vs := vs) ?_ big ?_ ?_ ?_ ?_
      · exact (Sub.joinl _ _ _ _ (Sub.joinl _ _ _ _ (one_at (o := O)))).trans (hO.symm.trans q1)
      · exact join_none n2 (join_none nr aX)
      · rw [z2]; exact ek
      · rw [z2]; exact nd
      · exact z1
  | h, w, x, v, .f f :: fs, r, e => by
    unfold getP at e
    split at e <;> try (cases e; done)
    all_goals rename_i heq <;> try (cases heq; done)
    cases heq
    obtain ⟨y, hy, e'⟩ := Option.bind_eq_some_iff.mp e
    clear e
    cases r with
    | ins q1 q2 kd n1 n2 ek rk =>
      rename_i hc a dx vs
      obtain ⟨yv, h1, h2, x1, x2, x3, x4, x5, x6⟩ := fs_focus T.inj ek rk hy
      obtain ⟨u, hx, hr, y1, y2, y3, y4, y5, y6⟩ := x2.focus e'
      have sc := kd.sub
      have hne : a ≠ dx := by
        intro z
        subst z
        have q1' : h a = _ := q1
        have q2' : h a = _ := q2
        rw [q1'] at q2'
        cases q2'
      obtain ⟨O, hO⟩ : ∃ O, h a = some O := ⟨_, q1⟩
      have aN : hx a = none := (y3.trans x3).none n1
      have dN : hx dx = none := (y3.trans x3).none n2
      refine ⟨u, hx, join (join (one a O) (one dx (.own a))) (join h2 hr), ⟨a, _, dx, vs, yv, rfl, q1, x1, rdP_mono (x3.trans sc) y1⟩, y2, y3.trans (x3.trans sc), ?_, ?_, ?_⟩
      · exact ((Sub.one hO).join (Sub.one q2)).join ((x4.trans sc).join (y4.trans (x3.trans sc)))
      · exact ((Dj.one aN).symm.joinr (Dj.one dN).symm).joinr ((x5.subl y3).joinr y5)
      · intro Z' hx' x' w' z r' d e'
        unfold setP at e'
        simp only [hy, Option.bind_some] at e'
        obtain ⟨w1, hw1, e'⟩ := Option.map_eq_some_iff.mp e'
        subst e'
        have o2 : Dj h2 hr := x5.symm.subr y4
        have d2 : Dj (join h2 hr) hx' := d.subl (.joinr (((Dj.one ((x4).none n1)).joinr (Dj.one ((y4.trans x3).none n1))).joinl ((Dj.one ((x4).none n2)).joinr (Dj.one ((y4.trans x3).none n2)))))
        have dh2 : Dj h2 hx' := d2.subl (.joinl _ _)
        have dhr : Dj hr hx' := d2.subl (.joinr o2)
        have rr := y6 Z' hx' x' w1 z r' dhr hw1
        obtain ⟨z1, z2⟩ := x6 Z' _ w1 z rr (o2.joinr dh2)
        have big : Sub (join h2 (join hr hx')) (join (join (join (one a O) (one dx (.own a))) (join h2 hr)) hx') := by
          have b1 : Sub (join h2 hr) (join (join (one a O) (one dx (.own a))) (join h2 hr)) :=
            .joinr (((Dj.one ((x4).none n1)).joinr (Dj.one ((y4.trans x3).none n1))).joinl ((Dj.one ((x4).none n2)).joinr (Dj.one ((y4.trans x3).none n2))))
          exact (((Sub.joinl h2 hr).trans b1).trans (.joinl _ _)).join ((((Sub.joinr o2).trans b1).trans (.joinl _ _)).join (.joinr d))
        have aX : hx' a = none := d.at (a := a) (o := O) (Sub.joinl _ _ _ _ (Sub.joinl _ _ _ _ one_at))
        have dX : hx' dx = none := d.at (a := dx) (o := .own a) (Sub.joinl _ _ _ _ (Sub.joinr (Dj.one (one_ne hne)) _ _ one_at))
        refine .ins (m := .own) (hc := join h2 (join hr hx')) (dx := dx) (vs := vs) ?_ ?_ ⟨big, fun z => absurd rfl z⟩ ?_ ?_ ?_ ?_
        · exact (Sub.joinl _ _ _ _ (Sub.joinl _ _ _ _ (Sub.joinl _ _ _ _ (one_at (o := O))))).trans (hO.symm.trans q1)
        · exact Sub.joinl _ _ _ _ (Sub.joinl _ _ _ _ (Sub.joinr (Dj.one (one_ne hne)) _ _ one_at))
        · exact join_none (x4.none n1) (join_none ((y4.trans x3).none n1) aX)
        · exact join_none (x4.none n2) (join_none ((y4.trans x3).none n2) dX)
        · rw [z2]; exact ek
        · exact z1
end
end VL
set_option Elab.async false
set_option linter.all false
set_option maxRecDepth 100000
set_option maxHeartbeats 1000000
namespace VL
open PySem L2
section
variable {X : Cx} {T : Tb} {E : XK} {ρ : Nat → Fn} {e a b : Expr} {pos p : Pos} {Z L : Hp} {lk : List Nat} {σ : St} {s : Sx} {D : Ends}
theorem put_rep {f : Nat} {y : V} {w : W} {t : Hp} (ry' : Rep T Z L t w y) : ∀ {gs : List (Nat × W)} {g : Hp} {vs : List (Str × V)}, (gs.map (·.1)).map T.nm = vs.map (·.1) → Reps T Z L g (gs.map (·.2)) (vs.map (·.2)) → Dj g t →
    ((putW f w gs).map (·.1)).map T.nm = (putF (T.nm f) y vs).map (·.1) ∧ Reps T Z L (join g t) ((putW f w gs).map (·.2)) ((putF (T.nm f) y vs).map (·.2))
  | [], g, vs, e0, r0, d0 => by
    cases vs with
    | nil => exact ⟨rfl, .cons ry' .nil (.joinr d0) (.emp _) (.emp' _)⟩
    | cons p vs => simp at e0
  | (i, x) :: gs, g, vs, e0, r0, d0 => by
    cases vs with
    | nil => simp at e0
    | cons q vs =>
      obtain ⟨n, z⟩ := q
      simp only [List.map_cons, List.cons.injEq] at e0 r0
      cases r0 with
      | cons r1 r2 a b d1 =>
        by_cases hf : i = f
        · subst hf
          simp only [putW, if_true, L2.putF, e0.1, List.map_cons, e0.2, true_and]
          exact .cons ry' r2 (.joinr d0) (b.trans (.joinl _ _)) (d0.symm.subr b)
        · have hn : ¬ n = T.nm f := by
            rw [← e0.1]
            exact fun z => hf (T.inj _ _ z)
          obtain ⟨y1, y2⟩ := put_rep ry' e0.2 r2 (d0.subl b)
          simp only [putW, if_neg hf, L2.putF, if_neg hn, List.map_cons, y1, e0.1, true_and]
          exact ⟨by rw [y1], .cons r1 y2 (a.trans (.joinl _ _)) ((b.trans (.joinl _ _)).join (.joinr d0)) (d1.joinr (d0.subl a))⟩
theorem om_setf {f : Nat} {K : PySem.W.Frag} : OpM T (fun x vs H Q => ∃ a c dx fs y, vs = [y] ∧ x = .ref a ∧ H a = some (.ins (T.cl c) dx fs) ∧ fs.length < 1000 ∧ Q .non (upd H a (.ins (T.cl c) dx (putF (T.nm f) y fs)))) (.setf f) := fun Z L H hx t x x' w ws v vs Q zh lh xh th d dz tz rx rw e q => by
  unfold mutF at e
  split at e <;> try (cases e; done)
  all_goals rename_i heq <;> try (cases heq; done)
  cases heq
  obtain ⟨e1, e2⟩ := opt_some e
  cases e2
  simp only [Bool.and_eq_true, Bool.not_eq_true', decide_eq_true_eq] at e1
  obtain ⟨y, rfl, ry⟩ := rw.one1
  cases rx with
  | ins q1 q2 kd n1 n2 ek rk =>
    rename_i hc a dx us
    have ry' : Rep T Z emp t _ y := ry.keep (by simpa using e1.1)
    obtain ⟨O, hO⟩ : ∃ O, hx a = some O := ⟨_, q1⟩
    have hne : a ≠ dx := by
      intro z
      subst z
      have q1' : hx a = _ := q1
      have q2' : hx a = _ := q2
      rw [q1'] at q2'
      cases q2'
    have ta : t a = none := d.at hO
    have td : t dx = none := d.at (show hx dx = _ from q2)
    have lenE := congrArg List.length ek
    simp only [List.length_map] at lenE
    have dct : Dj hc t := d.subl kd.sub
    obtain ⟨ek', rk'⟩ := put_rep ry' ek rk dct
    refine ⟨a, _, dx, us, y, rfl, rfl, xh _ _ q1, by rw [← lenE]; exact e1.2, ?_⟩
    have n1' : (join hc t) a = none := join_none n1 ta
    have n2' : (join hc t) dx = none := join_none n2 td
    have hd : (join (one dx (.own a)) (join hc t)) a = none := join_none (one_ne hne) n1'
    refine q _ _ (upd (join (one dx (.own a)) (join hc t)) a (.ins (T.cl _) dx (putF (T.nm f) y us))) emp (Sw.upd (Sub.joinl _ _ _ _ hO) (xh.join th) (Sub.updb ?_) (.emp _) rfl (.emp' _)) ?_ .non
    · exact ((Sub.one (show hx dx = _ from q2)).trans (.joinl _ _)).join ((kd.sub.trans (.joinl _ _)).join (.joinr d))
    · refine .ins (m := .own) (hc := join hc t) upd_same ?_ ⟨?_, fun z => absurd rfl z⟩ n1' n2' ek' rk'
      · show upd _ a _ dx = _
        rw [upd_ne hne.symm]
        exact Sub.joinl _ _ _ _ one_at
      · exact (Sub.joinr (Dj.one n2')).upd n1'
/-! ## paths -/
def tPath (T : Tb) (i : Nat) (fs : List Ps) : TE := fun σ H Q => ∃ v u, σ[i]? = some (some v) ∧ rdP T H v fs u ∧ Q u H
def PP (X : Cx) (T : Tb) (e : Expr) (i : Nat) (fs : List Ps) : Prop := PE X e (tPath T i fs)
theorem PE.weak {t t' : TE} (h : PE X e t) (w : ∀ σ H Q, t' σ H Q → t σ H Q) : PE X e t' := ⟨fun pins st σ H Q I q => h.run pins st σ H Q I (w _ _ _ q)⟩
theorem pp_var {i : Nat} (h : PE X e (tVar i)) : PP X T e i [] := PE.weak h fun σ H Q ⟨v, u, h1, h2, h3⟩ => by cases h2; exact ⟨_, h1, h3⟩
theorem plainIx_str (x : Str) (kk : Nat) (kp : Pos) : PlainIx (.Constant (.str x) kk kp) := fun _ _ => rfl
theorem pp_key {i : Nat} {fs : List Ps} {x : Str} {kp : Pos} {kk : Nat} (c : Ctx X T) (h : PP X T a i fs) : PP X T (.Subscript a (.Constant (.str x) kk kp) pos) i (fs ++ [.k x]) :=
  PE.weak (pe_ix (ix_dct c.un1) h pe_str (plainIx_str x kk kp)) fun σ H Q ⟨v, u, h1, h2, h3⟩ => by
    obtain ⟨y, q1, a', vs, z, q2, q3, q4, q5⟩ := rdP_snoc h2
    cases q5
    exact ⟨v, y, h1, q1, a', _, q2, .inl ⟨vs, .inr x, q3, rfl, q4.symm⟩, h3⟩
theorem pp_fld {i f : Nat} {fs : List Ps} (c : Ctx X T) (hf : f < T.nF) (hb : attributeBase a (T.nm f) X.env (eval a X.env) = eval a X.env) (h : PP X T a i fs) : PP X T (.Attribute a (T.nm f) pos) i (fs ++ [.f f]) :=
  PE.weak (pe_fld h hb) fun σ H Q ⟨v, u, h1, h2, h3⟩ => by
    obtain ⟨y, q1, a', c', dx, vs, z, q2, q3, q4, q5⟩ := rdP_snoc h2
    cases q5
    exact ⟨v, y, h1, q1, a', T.cl c', dx, vs, _, q2, q3, (c.fld c' f hf).1, (c.fld c' f hf).2, q4, h3⟩
/-! ## what stands behind a change -/
theorem Post.shrink {s s' : Sx} {E' t : Hp} (p : Post ⟨s.Z, E', s.H⟩ s' t) (h : Sub E' s.E) : Post s s' t :=
  ⟨p.zz, p.zh, p.eh, p.th, p.ze, p.zt, p.et, fun g x y z => p.fr g x y (z.subr h)⟩
theorem swap_post {s0 s s' : Sx} {ta t0 h1 h2 hx hr t H' hx' tr : Hp} (k : Hs L s) (p0 : Post s0 s (join ta t0)) (dt : Dj ta t0) (s1 : Sub h1 s.E) (s2 : Sub h2 s.E) (d : Dj h1 h2) (p : Post ⟨s.Z, h2, s.H⟩ s' t) (f1 : Sub hx h1) (f2 : Sub hr h1) (fd : Dj hx hr)
    (sw : Sw s'.H (join hx (join ta t)) H' hx' tr) : Dj hr hx' ∧ Dj (join hr hx') s'.E ∧ Post s0 ⟨s'.Z, join (join hr hx') s'.E, H'⟩ (join tr t0) := by
  have pa := p0.less (Sub.joinl ta t0)
  have pb := p0.less (Sub.joinr dt)
  obtain ⟨a1, a2, a3, a4⟩ := p.fr ta pa.th pa.zt.symm (pa.et.symm.subr s2)
  obtain ⟨q1, q2, q3, q4⟩ := p.fr t0 pb.th pb.zt.symm (pb.et.symm.subr s2)
  obtain ⟨b1, b2, b3, b4⟩ := p.fr h1 (s1.trans k.eh) (k.ze.symm.subl s1) d
  have tx : Dj hx ta := (pa.et.subl (f1.trans s1))
  have tr' : Dj hr ta := (pa.et.subl (f2.trans s1))
  have t0x : Dj t0 h1 := (pb.et.subl s1).symm
  have z1 := sw.fr s'.Z p.zh ((b2.symm.subr f1).joinr (a2.symm.joinr p.zt))
  have z2 := sw.fr s'.E p.eh ((b3.symm.subr f1).joinr (a3.symm.joinr p.et))
  have z3 := sw.fr hr (f2.trans b1) (fd.symm.joinr (tr'.joinr (b4.subl f2)))
  have z4 := sw.fr t0 q1 ((t0x.subr f1).joinr (dt.symm.joinr q4))
  have de : Dj (join hr hx') s'.E := (b3.subl f2).joinl z2.2.1.symm
  refine ⟨z3.2.1, de, p0.zz.trans p.zz, z1.1, (z3.1.join sw.sx).join z2.1, sw.st.join z4.1, ((b2.symm.subr f2).joinr z1.2.1).joinr p.ze, z1.2.2.joinr q2.symm, ((z3.2.2.joinl sw.dj).joinl z2.2.2).joinr (((t0x.symm.subl f2).joinl z4.2.1.symm).joinl q3.symm), fun g x y z => ?_⟩
  obtain ⟨c1, c2, c3, c4⟩ := p0.fr g x y z
  obtain ⟨e1, e2, e3, e4⟩ := p.fr g c1 c2 (c3.subr s2)
  have c5 := c3.subr s1
  obtain ⟨g1, g2, g3⟩ := sw.fr g e1 ((c5.subr f1).joinr ((c4.subr (.joinl _ _)).joinr e4))
  exact ⟨g1, e2, ((c5.subr f2).joinr g2).joinr e3, g3.joinr (c4.subr (.joinr dt))⟩
theorem Post.ee {s : Sx} (k : Hs L s) : Post s s (join emp emp) := (Post.refl k).less ((Sub.refl _).join (.refl _))
theorem lend1 {ro env : Env} {i : Nat} {w : W} (h : env[i]? = some (some w)) : lendE env ro [i] = (env.set i none, ro.set i (some w.lend)) := by
  simp [lendE, h]
theorem lend1_ok {ro : Env} {w : W} {i : Nat} {v : V} {h1 h2 : Hp} (k : Hs L s) (rr : EnvR T s.Z L emp ro σ) (hv : σ[i]? = some (some v)) (r : Rep T s.Z emp h1 w v) (s1 : Sub h1 s.E) (s2 : Sub h2 s.E) (d : Dj h1 h2) :
    Hs (join L h1) ⟨s.Z, h2, s.H⟩ ∧ EnvR T s.Z (join L h1) emp (ro.set i (some w.lend)) σ := by
  have dL : Dj L h1 := k.el.subr s1
  refine ⟨⟨k.zh, s2.trans k.eh, k.lh.join (s1.trans k.eh), k.ze.subr s2, k.zl.joinl (k.ze.subr s1).symm, (k.el.subr s2).joinl d⟩, ?_⟩
  have rl : Rep T s.Z (join L h1) emp w.lend v := (r.any (L := L)).lent (.joinl _ _) (.joinr dL)
  exact ((rr.mono (.refl _) (Sub.joinl L h1) (.refl _)).put' rl (.emp _) hv).wid ((Sub.emp _).join (.refl _))
/-- a method that changes its list -/
def Mut.ty : Mut → String | .update => "dict" | _ => "list"
theorem mut_reads {i : Nat} {fs : List Ps} {m : Mut} {is : List IE} {r : V → List V → Hp → VK → Prop} {ts : TA} {ro env : Env} {Q : VK} (om : OpM T r m) (k : Hs L s) (rr : EnvR T s.Z L emp ro σ) (re : EnvR T s.Z emp s.E env σ)
    (hs : ∀ (ro env : Env) (σ : St) (s : Sx) (L : Hp) (Q : List V → Hp → Prop), Hs L s → EnvR T s.Z L emp ro σ → EnvR T s.Z emp s.E env σ → Wants T L σ s (evs ρ is ro env) Q E → ts σ s.H Q)
    (w : Want T L σ s (ev ρ (.mut i fs m is) ro env) Q E) :
    ∃ v u, σ[i]? = some (some v) ∧ rdP T s.H v fs u ∧ tyW T.K m.ty u s.H ∧ ts σ s.H fun xs H2 => r u xs H2 Q := by
  rw [ev] at w
  cases q0 : env[i]? with
  | none => rw [q0] at w; exact w.elim
  | some o =>
  cases o with
  | none => rw [q0] at w; exact w.elim
  | some w0 =>
  rw [q0] at w
  rw [lend1 q0] at w
  dsimp only at w
  obtain ⟨v, h1, h2, hv, r0, e2, s1, s2, d⟩ := re.take q0
  cases qx : getP w0 fs with
  | none => rw [qx] at w; exact w.elim
  | some x =>
    rw [qx] at w
    simp only [bindE] at w
    cases hl : m.fits x with
    | false => rw [hl] at w; exact w.elim
    | true =>
    rw [hl] at w
    simp only [Bool.not_true, Bool.false_eq_true, if_false] at w
    obtain ⟨u, hx, hr, f1, f2, f3, f4, f5, f6⟩ := r0.focus qx
    refine ⟨v, u, hv, rdP_mono (s1.trans k.eh) f1, ?_, ?_⟩
    · unfold Mut.fits at hl
      split at hl <;> try (cases hl; done)
      · obtain ⟨a, vs, hc, rfl, q1, _⟩ := f2.dct_inv k.zh (.emp _) (f3.trans (s1.trans k.eh))
        rcases q1 with q1 | ⟨o, q1⟩
        · exact .inl (.inr (.inr (.inl ⟨rfl, .inl ⟨vs, q1⟩⟩)))
        · exact .inr ⟨rfl, a, rfl, .inl ⟨vs, .inr ⟨o, q1⟩⟩⟩
      · obtain ⟨a, vs, hc, rfl, q1, _⟩ := f2.lst_inv k.zh (.emp _) (f3.trans (s1.trans k.eh))
        exact .inl (.inl ⟨by cases m <;> first | rfl | (exfalso; exact absurd rfl ‹_›), vs, .inl q1⟩)
    obtain ⟨k', rr'⟩ := lend1_ok k rr hv r0 s1 s2 d
    refine hs _ _ σ ⟨s.Z, h2, s.H⟩ _ _ k' rr' e2 ?_
    cases q1 : evs ρ is (ro.set i (some w0.lend)) (env.set i none) with
    | bad => rw [q1] at w; exact w
    | ex c y env2 =>
      rw [q1] at w
      exact fun cls dd s' p e r => w cls dd s' (p.shrink s2) e r
    | ok ws env2 =>
      rw [q1] at w
      simp only [R.bind_ok, bindE] at w
      intro vs s' t p e rs
      cases qm : mutF m x ws with
      | none => rw [qm] at w; exact w.elim
      | some pr =>
        rw [qm] at w
        dsimp only at w
        cases qs : setP w0 fs pr.1 with
        | none => rw [qs] at w; exact w.elim
        | some w' =>
          rw [qs] at w
          dsimp only at w
          obtain ⟨b1, b2, b3, b4⟩ := p.fr h1 (s1.trans k.eh) (k.ze.symm.subl s1) d
          obtain ⟨kL, _⟩ := k'.post p
          obtain ⟨x', wr⟩ := pr
          have dt : Dj hx (join emp t) := (Dj.emp' _).joinr (b4.subl f3)
          refine om s'.Z _ s'.H hx (join emp t) x x' wr ws u vs Q p.zh kL.lh (f3.trans b1) ((Sub.emp _).join p.th) dt (b2.subl f3) ((Dj.emp _).joinl p.zt.symm) (f2.up p.zz) (rs.wid (.joinr (.emp _))) qm fun vr H' hx' tr sw rx rw' => ?_
          obtain ⟨g1, g2, g3⟩ := swap_post k (Post.ee k) (.emp _) s1 s2 d p f3 f4 f5 sw
          have rn := f6 s'.Z hx' x' w' p.zz rx g1 qs
          exact w vr ⟨s'.Z, join (join hr hx') s'.E, H'⟩ tr (g3.less (.joinl _ _)) (e.put' rn g2 hv) rw'.any
def tBW0 (K : PySem.W.Frag) (T : String) (r : V → List V → Hp → VK → Prop) (to : TE) : TE := fun σ H Q => to σ H fun x H1 => tyW K T x H1 ∧ r x [] H1 Q
theorem tyW_is {X : Cx} {pins : List (Addr × Obj)} {σ : St} {H : Hp} {s : Shared} {T : String} {x : V} {v : Value} (I : Inv X pins σ H s) (r : RelV x v) (ty : tyW X.K T x H) : s.TypeIs v T ∧ ∀ a, v = .ref a → ∃ ob, s.heap.get? a = some ob ∧ ob.dict = none := by
  rcases ty with ty | ⟨rfl, a, rfl, d⟩
  · exact tyV_is I r ty
  · cases r
    obtain ⟨z1, z2, _⟩ := isD_at I d
    exact ⟨z1, z2⟩
theorem pe_bm0W {o : Expr} {to : TE} {name : Str} {apos cpos : Pos} {Ty id : String} {r : V → List V → Hp → VK → Prop} (pa : PySem.PlainAttrs Ty) (slot : PySem.Slot Ty name id) (hty : PySem.typeOf (.builtin id) = pure (.type "method_descriptor")) (hm : MtR X id r) (ho : PE X o to)
    (hbase : attributeBase o name X.env (eval o X.env) = eval o X.env) (hline : (apos.endLine == cpos.line) = true) : PE X (.Call (.Attribute o name apos) [] [] cpos) (tBW0 X.K Ty r to) := by
  refine ⟨fun pins s σ H Q I h => ?_⟩
  refine PySem.wpAny_Call_method0_late hbase hline (thn (ho.run pins s σ H _ I h) fun v s1 ⟨x, H1, I1, r1, ty, q1⟩ => ?_)
  obtain ⟨h1, h2⟩ := tyW_is I1 r1 ty
  exact ⟨Ty, id, pa, slot, hty, h1, h2, PySem.Calls.callWith_builtin rfl (PySem.evalArgs_none (hm pins s1 σ H1 x [] v [] Q I1 r1 .nil q1))⟩
theorem se_mutR {i : Nat} {fs : List Ps} {m : Mut} {r : V → List V → Hp → VK → Prop} {id : String} {name : Str} {apos cpos : Pos} {is : List IE} {es : List Expr} {o : Expr} (c : Ctx X T) (pla : PySem.PlainAttrs m.ty) (om : OpM T r m) (slot : PySem.Slot m.ty name id) (hty : PySem.typeOf (.builtin id) = pure (.type "method_descriptor")) (hm : MtR X id r)
    (ho : PP X T o i fs) (ha : SA X T E (e :: es) (evs ρ is))
    (hbase : attributeBase o name X.env (eval o X.env) = eval o X.env)
    (hfew : ((backTo cpos (starEach (e :: es) X.env)).all (fun x => !x.1) && (backToKw cpos (keywordEach [] X.env)).all (fun x => x.1.isSome)
      && decide ((e :: es).length + ([] : List Keyword).length + (if ([] : List Keyword).isEmpty then 0 else 1) < 30)) = true)
    (hline : (apos.endLine == cpos.line) = true) (hs : starEach (e :: es) X.env = (false, eval e X.env) :: starEach es X.env) (hplain : (backTo cpos (starEach es X.env)).any (·.1) = false) :
    SE X T E (.Call (.Attribute o name apos) (e :: es) [] cpos) (ev ρ (.mut i fs m is)) := by
  obtain ⟨ts, ps, ha⟩ := ha
  refine ⟨_, pe_bmW pla slot hty hm ho ps hbase hfew hline hs hplain, fun ro env σ s L Q k rr re w => ?_⟩
  obtain ⟨v, u, hv, q1, q2, q3⟩ := mut_reads om k rr re ha w
  exact ⟨v, u, hv, q1, by rw [c.kk]; exact q2, q3⟩
theorem se_mutR0 {i : Nat} {fs : List Ps} {m : Mut} {r : V → List V → Hp → VK → Prop} {id : String} {name : Str} {apos cpos : Pos} {o : Expr} (c : Ctx X T) (pla : PySem.PlainAttrs m.ty) (om : OpM T r m) (slot : PySem.Slot m.ty name id) (hty : PySem.typeOf (.builtin id) = pure (.type "method_descriptor")) (hm : MtR X id r)
    (ho : PP X T o i fs) (hbase : attributeBase o name X.env (eval o X.env) = eval o X.env) (hline : (apos.endLine == cpos.line) = true) :
    SE X T E (.Call (.Attribute o name apos) [] [] cpos) (ev ρ (.mut i fs m [])) := by
  refine ⟨_, pe_bm0W pla slot hty hm ho hbase hline, fun ro env σ s L Q k rr re w => ?_⟩
  obtain ⟨v, u, hv, q1, q2, q3⟩ := mut_reads (ts := fun σ H Q => Q [] H) om k rr re (fun ro env σ s L Q k rr re w => by
    rw [evs] at w
    exact w [] s emp (Post.refl k) re .nil) w
  exact ⟨v, u, hv, q1, by rw [c.kk]; exact q2, q3⟩
/-- o.f = v -/
def gFld (K : PySem.W.Frag) (to : TE) (f : Str) : TG := fun v σ H Q => to σ H fun x H1 => ∃ a C dx fs, x = .ref a ∧ H1 a = some (.ins C dx fs) ∧ Cls K C ∧ NoAttr K C f ∧ fs.length < 1000 ∧ Q σ (upd H1 a (.ins C dx (putF f v fs)))
theorem pg_fld {o : Expr} {f : Str} {to : TE} (ho : PE X o to) : PG X (.Attribute o f pos) (gFld X.K to f) := by
  refine ⟨fun pins st σ H v u Q I r h => ?_⟩
  refine PySem.W.kas_attr (thn (ho.run pins st σ H _ I h) fun ov s1 ⟨x, H1, I1, rx, a, C, dx, fs, ex, ea, c, n, l, q⟩ => ?_)
  subst ex
  obtain rfl : ov = PySem.Value.ref a := rx
  exact setattr_ok I1 ea c n l r fun s3 I3 => ⟨σ, _, I3, q⟩
theorem sg_fld {o : Expr} {i f : Nat} {fs : List Ps} (c : Ctx X T) (hf : f < T.nF) (ho : PP X T o i fs) : SG X T (.Attribute o (T.nm f) pos) (.fld i fs f) := by
  refine ⟨_, pg_fld ho, fun lk ro env ro' env' σ s0 s L t0 t' w v Q k p d rr re r as q => ?_⟩
  rw [asgT] at as
  split at as
  · rename_i x hx
    obtain ⟨x', hx', as⟩ := Option.map_eq_some_iff.mp as
    cases as
    obtain ⟨y, hy, hx'⟩ := Option.bind_eq_some_iff.mp hx'
    obtain ⟨pr, hm, hs⟩ := Option.bind_eq_some_iff.mp hx'
    obtain ⟨y', wr⟩ := pr
    obtain ⟨ks, _⟩ := k.post p
    obtain ⟨xv, h1, h2, hv, r0, e2, s1, s2, dd⟩ := re.take hx
    obtain ⟨u, hu, hr, f1, f2, f3, f4, f5, f6⟩ := r0.focus hy
    have k2 : Hs L ⟨s.Z, h2, s.H⟩ := ⟨ks.zh, s2.trans ks.eh, ks.lh, ks.ze.subr s2, ks.zl, ks.el.subr s2⟩
    have p2 : Post ⟨s.Z, h2, s.H⟩ ⟨s.Z, h2, s.H⟩ emp := Post.refl k2
    have pt := p.less (Sub.joinl t0 t')
    have dt : Dj hu (join t0 emp) := (pt.et.subl (f3.trans s1)).joinr (.emp' _)
    have ty := om_setf (T := T) (f := f) (K := T.K) s.Z L s.H hu (join t0 emp) y y' wr [w] u [v] (fun vr H' => vr = .non → Q σ H') ks.zh ks.lh (f3.trans (s1.trans ks.eh)) (pt.th.join (.emp _)) dt ((ks.ze.symm.subl s1).subl f3) (pt.zt.symm.joinl (.emp _)) f2
      (.cons r .nil (.joinl _ _) (.emp _) (.emp' _)) hm fun vr H' hx' tr sw rx rw' _ => ?_
    · obtain ⟨a, c', dx, gs, y0, e1, e2', e3, e4, e5⟩ := ty
      cases e1
      exact ⟨xv, u, hv, rdP_mono (s1.trans ks.eh) f1, a, _, dx, gs, e2', e3, (c.fld c' f hf).1, (c.fld c' f hf).2, e4, e5 rfl⟩
    · obtain ⟨g1, g2, g3⟩ := swap_post ks p d s1 s2 dd p2 f3 f4 f5 sw
      have rn := f6 s.Z hx' y' x' (.refl _) rx g1 hs
      exact q σ ⟨s.Z, join (join hr hx') h2, H'⟩ (g3.less (.joinr (by
        obtain ⟨_, _, q3, _⟩ := p2.fr t' ((p.less (Sub.joinr d)).th) ((p.less (Sub.joinr d)).zt.symm) (((p.less (Sub.joinr d)).et.symm).subr s2)
        have := sw.fr t' (p.less (Sub.joinr d)).th ((((p.less (Sub.joinr d)).et.subl (f3.trans s1)).symm).joinr (d.symm.joinr (.emp' _)))
        exact this.2.2.symm))) (.refl _) rr (by have := e2.put' rn g2 hv; rw [List.set_set] at this; exact this) (.refl _ _) fun _ _ => rfl
  · cases as
/-! ## statements that change a place -/
theorem ss_setx {i : Nat} {fs : List Ps} {o ix : Expr} {iix ie : IE} {spos : Pos} (c : Ctx X T) (ho : PP X T o i fs) (hx : SE X T E ix (ev ρ iix)) (he : SE X T E e (ev ρ ie))
    (ha : ∀ v, assign (.Subscript o ix pos) X.env v = (do
      let ov ← holding [v] (eval o X.env)
      let iv ← holding [v, ov] (eval ix X.env)
      standAt pos
      holding [v, ov, iv] (setItem ov iv v)
      release [v, ov, iv] []))
    (hs : swapsWithSole [.Subscript o ix pos] e spos.line X.env = pure false) (hw : swappedStores [.Subscript o ix pos] e X.env = pure none)
    (h1 : (assignEach [.Subscript o ix pos] X.env).map (·.2) = [assign (.Subscript o ix pos) X.env]) : SS X T E (.Assign [.Subscript o ix pos] e spos) (fS ρ (.setx i fs iix ie)) := by
  obtain ⟨te, pe, he⟩ := he
  obtain ⟨tx, px, hx⟩ := hx
  refine ⟨_, ps_asg pe (pg_sub ho px (set_any c.un1) ha) hs hw h1, fun lk ro env σ s L D k rr re w => ?_⟩
  simp only [fS, evS] at w
  refine he ro env σ s L _ k rr re (WantS.bind w (Post.refl k) (.refl _ _) fun x env1 v s1 t1 p1 e1 r1 w1 => ?_)
  obtain ⟨k1, dl1⟩ := k.post p1
  cases q0 : env1[i]? with
  | none => rw [q0] at w1; exact w1.elim
  | some oo =>
  cases oo with
  | none => rw [q0] at w1; exact w1.elim
  | some w0 =>
  rw [q0] at w1
  dsimp only at w1
  cases qy : getP w0 fs with
  | none => rw [qy] at w1; exact w1.elim
  | some y =>
  rw [qy, lend1 q0] at w1
  dsimp only at w1
  obtain ⟨xv, h1, h2, hv, r0, e2, s1', s2', dd⟩ := e1.take q0
  obtain ⟨u, hu, hr, f1, f2, f3, f4, f5, f6⟩ := r0.focus qy
  obtain ⟨k', rr'⟩ := lend1_ok k1 (rr.up p1.zz) hv r0 s1' s2' dd
  refine ⟨xv, u, hv, rdP_mono (s1'.trans k1.eh) f1, ?_⟩
  refine hx _ _ σ ⟨s1.Z, h2, s1.H⟩ _ _ k' rr' e2 ?_
  cases q1 : ev ρ iix (ro.set i (some w0.lend)) (env1.set i none) with
  | bad => rw [q1] at w1; exact w1
  | ex c y env2 =>
    rw [q1] at w1
    exact fun cls dd' s' p e r => w1 cls dd' σ s' (p1.trans (p.shrink s2')) e (.refl _ _) r
  | ok kx env2 =>
    rw [q1] at w1
    simp only [R.st_ok] at w1
    intro kv s' t p e rk
    cases qm : (mutF .setix y [kx, x]).bind fun p => setP w0 fs p.1 with
    | none => rw [qm] at w1; exact w1.elim
    | some x' =>
      rw [qm] at w1
      dsimp only at w1
      obtain ⟨pr, hm, hst⟩ := Option.bind_eq_some_iff.mp qm
      obtain ⟨y', wr⟩ := pr
      obtain ⟨b1, b2, b3, b4⟩ := p.fr h1 (s1'.trans k1.eh) (k1.ze.symm.subl s1') dd
      obtain ⟨a1, a2, a3, a4⟩ := p.fr t1 p1.th p1.zt.symm (p1.et.symm.subr s2')
      obtain ⟨kL, _⟩ := k'.post p
      have dt : Dj hu (join t1 t) := (p1.et.subl (f3.trans s1')).joinr (b4.subl f3)
      have r1' : Rep T s'.Z (join L h1) t1 x v := (r1.mono p.zz (.joinl _ _) (.refl _))
      have ty := om_setix s'.Z _ s'.H hu (join t1 t) y y' wr [kx, x] u [kv, v] (fun vr H' => vr = .non → D.nx σ H') p.zh kL.lh (f3.trans b1) (a1.join p.th) dt (b2.subl f3) (a2.joinl p.zt.symm) (f2.up p.zz)
        (.cons rk (.cons r1' .nil (.refl _) (.emp _) (.emp' _)) (.joinr a4) (.joinl _ _) a4.symm) hm fun vr H' hx' tr sw rx rw' _ => ?_
      · obtain ⟨i', v', e0, q⟩ := ty
        cases e0
        rcases q with ⟨p', xs, kk, j, z1, z2, z3, z4, z5⟩ | ⟨a', H', z1, z2, z3⟩
        · exact .inl ⟨p', xs, kk, j, z1, z2, z3, z4, z5 rfl⟩
        · exact .inr ⟨a', H', z1, z2, z3 rfl⟩
      · obtain ⟨g1, g2, g3⟩ := swap_post k1 (p1.less ((Sub.refl _).join (.emp _))) (.emp' _) s1' s2' dd p f3 f4 f5 sw
        have rn := f6 s'.Z hx' y' x' p.zz rx g1 hst
        exact w1 σ ⟨s'.Z, join (join hr hx') s'.E, H'⟩ g3.bare ((rr.up p1.zz).up p.zz) (e.put' rn g2 hv) (.refl _ _)
/-- a part of a slot's tree that nobody changes any more -/
theorem gh_frz {i : Nat} {fs : List Ps} (lk : List Nat) (ro env : Env) (σ : St) (s : Sx) (L : Hp) (k : Hs L s) (rr : EnvR T s.Z L emp ro σ) (re : EnvR T s.Z emp s.E env σ) : evS ρ lk (.frz i fs) ro env = .bad ∨
      ∃ ro1 env1 s1, evS ρ lk (.frz i fs) ro env = .nx ro1 env1 ∧ s1.H = s.H ∧ Post s s1 emp ∧ EnvR T s1.Z L emp ro1 σ ∧ EnvR T s1.Z emp s1.E env1 σ := by
  rw [evS]
  split
  · rename_i w0 q0
    cases qf : frzP w0 fs with
    | none => exact .inl rfl
    | some w' =>
      obtain ⟨x, qx, qs⟩ := Option.bind_eq_some_iff.mp qf
      obtain ⟨xv, h1, h2, hv, r0, e2, s1, s2, dd⟩ := re.take q0
      obtain ⟨u, hu, hr, f1, f2, f3, f4, f5, f6⟩ := r0.focus qx
      have zz : Sub s.Z (join s.Z hu) := .joinl _ _
      have zd : Dj s.Z hu := k.ze.subr (f3.trans s1)
      have hz : Sub hu (join s.Z hu) := .joinr zd
      have rf : Rep T (join s.Z hu) emp emp x.freeze u := f2.frozen zz hz f2.nolnt
      have rn := f6 (join s.Z hu) emp _ w' zz rf (.emp' _) qs
      have dh : Dj (join hr emp) h2 := (dd.subl f4).joinl (.emp _)
      have sE : Sub (join (join hr emp) h2) s.E := (((f4.trans s1).join (.emp _))).join s2
      refine .inr ⟨ro, env.set i (some w'), ⟨join s.Z hu, join (join hr emp) h2, s.H⟩, rfl, rfl, ?_, rr.up zz, ?_⟩
      · exact Post.froze k (f3.trans s1) sE ((f5.joinr (.emp' _)).joinr (dd.subl f3))
      · have := (e2.up zz).put' rn dh hv
        rw [List.set_set] at this
        exact this
  · exact .inr ⟨ro, env, s, rfl, rfl, Post.refl k, rr, re⟩
theorem ss_frz {i : Nat} {fs : List Ps} {sts : List Stmt} {is : List IS} (hs : SSs X T E sts (fSs ρ is)) : SSs X T E sts (fSs ρ (.frz i fs :: is)) := ss_ghost gh_frz hs
/-! ## two or three names at once -/
theorem ss_par2 {i j : Nat} {x y : Str} {ia ib : IE} {px py pt spos : Pos} {kt k2 pt2} (c : Ctx X T) (hi : X.N[i]? = some x) (hj : X.N[j]? = some y) (hij : i ≠ j)
    (hx : X.env.scope.names.lookup x = some .local) (hy : X.env.scope.names.lookup y = some .local) (ha : SA X T E [a, b] (evs ρ [ia, ib]))
    (hw : swappedStores [.Tuple [.Name x px, .Name y py] kt pt] (.Tuple [a, b] k2 pt2) X.env = pure (some [x, y]))
    (hs : swapsWithSole [.Tuple [.Name x px, .Name y py] kt pt] (.Tuple [a, b] k2 pt2) spos.line X.env = pure false) :
    SS X T E (.Assign [.Tuple [.Name x px, .Name y py] kt pt] (.Tuple [a, b] k2 pt2) spos) (fS ρ (.par2 i j ia ib)) := by
  obtain ⟨ta, pa, ha⟩ := ha
  refine ⟨_, ps_par c.calm c.nd hi hj hij hx hy pa hw hs, fun lk ro env σ s L D k rr re w => ?_⟩
  simp only [fS] at w
  rw [evS] at w
  refine ha ro env σ s L _ k rr re (WantS.bind w (Post.refl k) (.refl _ _) fun ws env1 vs s1 t1 p1 e1 r1 w1 => ?_)
  split at w1
  · rename_i wx wy
    obtain ⟨v1, v2, u1, u2, rfl, r1, r2, b1, b2, b3⟩ := r1.two2
    split at w1
    · rename_i ro2 env2 q2
      refine ⟨v1, v2, rfl, ?_⟩
      refine asgN_ok (t' := join u2 emp) (p1.less (b1.join (b2.join (.emp _)))) (b3.joinr (.emp' _)) (rr.up p1.zz) e1 r1 q2 fun s2 p2 z2 h2 rr2 re2 lk2 => ?_
      cases q3 : asgN lk j wy ro2 env2 with
      | none => rw [q3] at w1; exact w1.elim
      | some pr =>
        obtain ⟨ro3, env3⟩ := pr
        rw [q3] at w1
        refine asgN_ok (t' := emp) p2 (.emp' _) rr2 re2 (by rw [z2]; exact r2) q3 fun s3 p3 z3 h3 rr3 re3 lk3 => ?_
        have := w1 _ s3 p3 rr3 re3 ⟨by simp, fun n hn => (lk3 n hn).trans (lk2 n hn)⟩
        rw [h3, h2] at this
        exact this
    · exact w1.elim
  · exact w1.elim
theorem Reps.three3 {t : Hp} {w1 w2 w3 : W} {vs : List V} (r : Reps T Z L t [w1, w2, w3] vs) : ∃ v1 v2 v3 t1 t2 t3, vs = [v1, v2, v3] ∧ Rep T Z L t1 w1 v1 ∧ Rep T Z L t2 w2 v2 ∧ Rep T Z L t3 w3 v3 ∧ Sub t1 t ∧ Sub t2 t ∧ Sub t3 t ∧ Dj t1 t2 ∧ Dj t1 t3 ∧ Dj t2 t3 := by
  cases r with
  | cons r t a b d =>
    obtain ⟨v1, v2, u1, u2, rfl, r1, r2, b1, b2, b3⟩ := t.two2
    exact ⟨_, _, _, _, _, _, rfl, r, r1, r2, a, b1.trans b, b2.trans b, d.subr b1, d.subr b2, b3⟩
theorem ss_par3 {i j l : Nat} {x y z : Str} {a b d : Expr} {ia ib id : IE} {px py pz pt spos : Pos} {kt k2 pt2} (c : Ctx X T) (hi : X.N[i]? = some x) (hj : X.N[j]? = some y) (hl : X.N[l]? = some z) (hij : i ≠ j) (hil : i ≠ l) (hjl : j ≠ l)
    (hx : X.env.scope.names.lookup x = some .local) (hy : X.env.scope.names.lookup y = some .local) (hz : X.env.scope.names.lookup z = some .local) (ha : SA X T E [a, b, d] (evs ρ [ia, ib, id]))
    (hw : swappedStores [.Tuple [.Name x px, .Name y py, .Name z pz] kt pt] (.Tuple [a, b, d] k2 pt2) X.env = pure (some [x, y, z]))
    (hs : swapsWithSole [.Tuple [.Name x px, .Name y py, .Name z pz] kt pt] (.Tuple [a, b, d] k2 pt2) spos.line X.env = pure false) :
    SS X T E (.Assign [.Tuple [.Name x px, .Name y py, .Name z pz] kt pt] (.Tuple [a, b, d] k2 pt2) spos) (fS ρ (.par3 i j l ia ib id)) := by
  obtain ⟨ta, pa, ha⟩ := ha
  refine ⟨_, ps_par3 c.calm c.nd hi hj hl hij hil hjl hx hy hz pa hw hs, fun lk ro env σ s L D k rr re w => ?_⟩
  simp only [fS] at w
  rw [evS] at w
  refine ha ro env σ s L _ k rr re (WantS.bind w (Post.refl k) (.refl _ _) fun ws env1 vs s1 t1 p1 e1 r1 w1 => ?_)
  split at w1
  · rename_i wx wy wz
    obtain ⟨v1, v2, v3, u1, u2, u3, rfl, r1, r2, r3, b1, b2, b3, d1, d2, d3⟩ := r1.three3
    split at w1
    · rename_i ro2 env2 q2
      refine ⟨v1, v2, v3, rfl, ?_⟩
      refine asgN_ok (t' := join u2 (join u3 emp)) (p1.less (b1.join (b2.join (b3.join (.emp _))))) (d1.joinr (d2.joinr (.emp' _))) (rr.up p1.zz) e1 r1 q2 fun s2 p2 z2 h2 rr2 re2 lk2 => ?_
      split at w1
      · rename_i ro3 env3 q3
        refine asgN_ok (t' := join u3 emp) p2 (d3.joinr (.emp' _)) rr2 re2 (by rw [z2]; exact r2) q3 fun s3 p3 z3 h3 rr3 re3 lk3 => ?_
        cases q4 : asgN lk l wz ro3 env3 with
        | none => rw [q4] at w1; exact w1.elim
        | some pr =>
          obtain ⟨ro4, env4⟩ := pr
          rw [q4] at w1
          refine asgN_ok (t' := emp) p3 (.emp' _) rr3 re3 (by rw [z3, z2]; exact r3) q4 fun s4 p4 z4 h4 rr4 re4 lk4 => ?_
          have := w1 _ s4 p4 rr4 re4 ⟨by simp, fun n hn => ((lk4 n hn).trans (lk3 n hn)).trans (lk2 n hn)⟩
          rw [h4, h3, h2] at this
          exact this
      · exact w1.elim
    · exact w1.elim
  · exact w1.elim
/-! ## name = [.. for ..] on one line -/
/-- a comprehension, with things lent around it -/
inductive LcOf (own : List Nat) (it : It) (tgw : Tg) (is : List IT) (ie : IE) : IE → Prop where
  | comp : LcOf own it tgw is ie (.comp own it tgw is ie)
  | lend {xs i} : LcOf own it tgw is ie i → LcOf own it tgw is ie (.lend xs i)
theorem LcOf.reads {own : List (Str × Nat)} {it : It} {tgw : Tg} {is : List IT} {ie : IE} {wi : TI}
    (hi : ∀ (ro env : Env) (σ : St) (s : Sx) (L : Hp) (Q : L2.It → Hp → Prop), Hs L s → EnvR T s.Z L emp ro σ → EnvR T s.Z emp s.E env σ → WantG (fun Z t items J => Gives T L J items Z t) T σ s (evIt ρ it ro env) Q E → wi σ s.H Q)
    (hn : ∀ i ∈ tgw.names, i ∈ own.map (·.2)) : ∀ {e : IE}, LcOf (own.map (·.2)) it tgw is ie e → ∀ (ro env : Env) (σ : St) (s : Sx) (L : Hp) (Q : VK), Hs L s → EnvR T s.Z L emp ro σ → EnvR T s.Z emp s.E env σ → Want T L σ s (ev ρ e ro env) Q E →
    tLc wi (gOf T tgw) (bOf T X0 (evTand ρ is)) (tOf T X0 (ev ρ ie)) (own.map (·.2)) σ s.H Q
  | _, .comp => comp_reads hi hn
  | _, .lend h => lend_reads (h.reads hi hn)
theorem ss_setLc {i : Nat} {y : Str} {py spos : Pos} {elt tg iter : Expr} {ifs : List Expr} {scope : Scope} {own : List (Str × Nat)} {it : It} {tgw : Tg} {is : List IT} {ie e0 : IE} (c : Ctx X T) (lc : LcOf (own.map (·.2)) it tgw is ie e0) (hy : X.N[i]? = some y) (hyl : X.env.scope.names.lookup y = some .local)
    (hsw : swapsWith (.ListComp elt [⟨tg, iter, ifs, 0⟩] scope pos) (some (.Name y py)) spos.line X.env = pure true) (ok : BlkOk X.N X.env.scope scope own) (hi : SI X T E tg iter (evIt ρ it))
    (hg : ∀ (s : Shared) (H : Hp) (C : Addr) (cl : List (Str × Addr)) (fp : List Addr), SG (X.blk s H scope (compEnvC scope cl C X.env) fp) T tg tgw)
    (ht : ∀ (s : Shared) (H : Hp) (C : Addr) (cl : List (Str × Addr)) (fp : List Addr), SC (X.blk s H scope (compEnvC scope cl C X.env) fp) T X0 ifs (evTand ρ is))
    (he : ∀ (s : Shared) (H : Hp) (C : Addr) (cl : List (Str × Addr)) (fp : List Addr), SE (X.blk s H scope (compEnvC scope cl C X.env) fp) T X0 elt (ev ρ ie))
    (hs : ∀ x, foldedSetIterable iter X.env x = pure x) (hn : ∀ i ∈ tgw.names, i ∈ own.map (·.2)) :
    SS X T E (.Assign [.Name y py] (.ListComp elt [⟨tg, iter, ifs, 0⟩] scope pos) spos) (fS ρ (.asg (.name i) e0)) := by
  obtain ⟨wi, pi, hi⟩ := hi
  refine ⟨_, ps_setLc c.calm c.nd hy hyl hsw pi ok (fun s H C cl fp => (hg s H C cl fp).pg) (fun s H C cl fp => (ht s H C cl fp).pts) (fun s H C cl fp => (he s H C cl fp).pe) hs, fun lk ro env σ s L D k rr re w => ?_⟩
  simp only [fS, evS] at w
  refine lc.reads hi hn ro env σ s L _ k rr re (WantS.bind w (Post.refl k) (.refl _ _) fun x env1 v s1 t1 p1 e1 r1 w1 => ?_)
  rw [asgT] at w1
  cases q : asgN lk i x ro env1 with
  | none => rw [q] at w1; exact w1.elim
  | some pr =>
    obtain ⟨ro', env'⟩ := pr
    rw [q] at w1
    refine asgN_ok (t' := emp) (p1.less ((Sub.refl _).join (.emp _))) (.emp' _) (rr.up p1.zz) e1 r1 q fun s2 p2 z2 h2 rr2 re2 lk2 => ?_
    have := w1 _ s2 p2 rr2 re2 ⟨by simp, lk2⟩
    rw [h2] at this
    exact this
/-- name = {..} on one line, the name a local -/
theorem ps_setDc {i : Nat} {y : Str} {py : Pos} {kx vx tg iter : Expr} {ifs : List Expr} {scope : Scope} {own : List (Str × Nat)} {pos spos : Pos} {wi : TI} {g : TG} {tt : TT} {tk tv : TE} (hc : X.calm = true) (hN : X.N.Nodup) (hy : X.N[i]? = some y) (hyl : X.env.scope.names.lookup y = some .local)
    (hsw : swapsWith (.DictComp kx vx [⟨tg, iter, ifs, 0⟩] scope pos) (some (.Name y py)) spos.line X.env = pure true) (hi : PI X tg iter wi) (ok : BlkOk X.N X.env.scope scope own)
    (hg : ∀ (s : Shared) (H : Hp) (C : Addr) (cl : List (Str × Addr)) (fp : List Addr), PG (X.blk s H scope (compEnvC scope cl C X.env) fp) tg g) (ht : ∀ (s : Shared) (H : Hp) (C : Addr) (cl : List (Str × Addr)) (fp : List Addr), PTs (X.blk s H scope (compEnvC scope cl C X.env) fp) ifs tt)
    (hk : ∀ (s : Shared) (H : Hp) (C : Addr) (cl : List (Str × Addr)) (fp : List Addr), PE (X.blk s H scope (compEnvC scope cl C X.env) fp) kx tk)
    (he : ∀ (s : Shared) (H : Hp) (C : Addr) (cl : List (Str × Addr)) (fp : List Addr), PE (X.blk s H scope (compEnvC scope cl C X.env) fp) vx tv) (hs : ∀ x, foldedSetIterable iter X.env x = pure x) :
    PS X (.Assign [.Name y py] (.DictComp kx vx [⟨tg, iter, ifs, 0⟩] scope pos) spos) (tAsg (tDc wi g tt tk tv (own.map (·.2))) (gName i)) := by
  refine ⟨fun pins s σ H D I h => ?_⟩
  rw [exec_Assign_Name_used _ _ _ _ hsw]
  refine wpAny_bind (wpAny_standAt (wpAny_bind ?_))
  show wpAny _ X.A (do let _ ← comprehension (.DictComp kx vx [⟨tg, iter, ifs, 0⟩] scope pos) scope X.env (firstIterPos [⟨tg, iter, ifs, 0⟩] pos) newDict false (eval iter X.env) (some (assign (.Name y py) X.env))) _ _ s
  have h : tDc wi g tt tk tv (own.map (·.2)) σ H (fun x H1 => gName i x σ H1 D.nx) := h
  refine wpAny_bind (thn (dc_core (Qf := fun _ s' => SP X pins D .next s') hc hN I hi ok hg ht hk he hs h fun L C s' m H' I' q hn f => ?_) fun _ s' hq => wpAny_pure (wpAny_pure hq))
  show wpAny _ _ (assign (.Name y py) X.env (.ref L)) _ _ _
  refine wpAny_assign_Name (store_ok2 (v := V.ref L) I' hN hy (.inl hyl) rfl (fun s2 I2 ⟨a, sb, ha⟩ => ?_) (.inr hyl))
  obtain ⟨f0, f1, f2, f3, f4, f5⟩ := f
  have haC : C ≠ a := by
    rcases ha with z | z
    · rw [z]; exact f1
    · exact fun e => f4 y a z e.symm
  refine ⟨m, hn.sameBut sb haC, fun h3 sb3 => ?_⟩
  exact ⟨_, H', I2.turned (t' := s2.toks) (fun b o hb e => (sb3.2 b hb).trans e) f0 f1 f3 f4 f5, q⟩
/-! ## name = {..: .. for ..} on one line -/
inductive DcOf (own : List Nat) (it : It) (tgw : Tg) (is : List IT) (ik ie : IE) : IE → Prop where
  | comp : DcOf own it tgw is ik ie (.dcomp own it tgw is ik ie)
  | lend {xs i} : DcOf own it tgw is ik ie i → DcOf own it tgw is ik ie (.lend xs i)
theorem DcOf.reads {own : List (Str × Nat)} {it : It} {tgw : Tg} {is : List IT} {ik ie : IE} {wi : TI}
    (hi : ∀ (ro env : Env) (σ : St) (s : Sx) (L : Hp) (Q : L2.It → Hp → Prop), Hs L s → EnvR T s.Z L emp ro σ → EnvR T s.Z emp s.E env σ → WantG (fun Z t items J => Gives T L J items Z t) T σ s (evIt ρ it ro env) Q E → wi σ s.H Q)
    (hn : ∀ i ∈ tgw.names, i ∈ own.map (·.2)) : ∀ {e : IE}, DcOf (own.map (·.2)) it tgw is ik ie e → ∀ (ro env : Env) (σ : St) (s : Sx) (L : Hp) (Q : VK), Hs L s → EnvR T s.Z L emp ro σ → EnvR T s.Z emp s.E env σ → Want T L σ s (ev ρ e ro env) Q E →
    tDc wi (gOf T tgw) (bOf T X0 (evTand ρ is)) (tOf T X0 (ev ρ ik)) (tOf T X0 (ev ρ ie)) (own.map (·.2)) σ s.H Q
  | _, .comp => dcomp_reads hi hn
  | _, .lend h => lend_reads (h.reads hi hn)
theorem ss_setDc {i : Nat} {y : Str} {py spos : Pos} {kx vx tg iter : Expr} {ifs : List Expr} {scope : Scope} {own : List (Str × Nat)} {it : It} {tgw : Tg} {is : List IT} {ik ie e0 : IE} (c : Ctx X T) (lc : DcOf (own.map (·.2)) it tgw is ik ie e0) (hy : X.N[i]? = some y) (hyl : X.env.scope.names.lookup y = some .local)
    (hsw : swapsWith (.DictComp kx vx [⟨tg, iter, ifs, 0⟩] scope pos) (some (.Name y py)) spos.line X.env = pure true) (ok : BlkOk X.N X.env.scope scope own) (hi : SI X T E tg iter (evIt ρ it))
    (hg : ∀ (s : Shared) (H : Hp) (C : Addr) (cl : List (Str × Addr)) (fp : List Addr), SG (X.blk s H scope (compEnvC scope cl C X.env) fp) T tg tgw)
    (ht : ∀ (s : Shared) (H : Hp) (C : Addr) (cl : List (Str × Addr)) (fp : List Addr), SC (X.blk s H scope (compEnvC scope cl C X.env) fp) T X0 ifs (evTand ρ is))
    (hk : ∀ (s : Shared) (H : Hp) (C : Addr) (cl : List (Str × Addr)) (fp : List Addr), SE (X.blk s H scope (compEnvC scope cl C X.env) fp) T X0 kx (ev ρ ik))
    (he : ∀ (s : Shared) (H : Hp) (C : Addr) (cl : List (Str × Addr)) (fp : List Addr), SE (X.blk s H scope (compEnvC scope cl C X.env) fp) T X0 vx (ev ρ ie))
    (hs : ∀ x, foldedSetIterable iter X.env x = pure x) (hn : ∀ i ∈ tgw.names, i ∈ own.map (·.2)) :
    SS X T E (.Assign [.Name y py] (.DictComp kx vx [⟨tg, iter, ifs, 0⟩] scope pos) spos) (fS ρ (.asg (.name i) e0)) := by
  obtain ⟨wi, pi, hi⟩ := hi
  refine ⟨_, ps_setDc c.calm c.nd hy hyl hsw pi ok (fun s H C cl fp => (hg s H C cl fp).pg) (fun s H C cl fp => (ht s H C cl fp).pts) (fun s H C cl fp => (hk s H C cl fp).pe) (fun s H C cl fp => (he s H C cl fp).pe) hs, fun lk ro env σ s L D k rr re w => ?_⟩
  simp only [fS, evS] at w
  refine lc.reads hi hn ro env σ s L _ k rr re (WantS.bind w (Post.refl k) (.refl _ _) fun x env1 v s1 t1 p1 e1 r1 w1 => ?_)
  rw [asgT] at w1
  cases q : asgN lk i x ro env1 with
  | none => rw [q] at w1; exact w1.elim
  | some pr =>
    obtain ⟨ro', env'⟩ := pr
    rw [q] at w1
    refine asgN_ok (t' := emp) (p1.less ((Sub.refl _).join (.emp _))) (.emp' _) (rr.up p1.zz) e1 r1 q fun s2 p2 z2 h2 rr2 re2 lk2 => ?_
    have := w1 _ s2 p2 rr2 re2 ⟨by simp, lk2⟩
    rw [h2] at this
    exact this
end
end VL
set_option Elab.async false
set_option linter.all false
set_option maxRecDepth 100000
set_option maxHeartbeats 1000000
namespace VL
open PySem L2
/-! ## what a def promises, by its evaluator -/
def spF (T : Tb) (F : Fn) : Sp := fun vs H Q E => ∃ (us : List W) (s : Sx) (L : Hp), s.H = H ∧ Hs L s ∧ us.length = F.md.length ∧ vs.length = F.md.length ∧ EnvR T s.Z L emp (roOf F.md us) (vs.map some) ∧ EnvR T s.Z emp s.E (envOf F.md us) (vs.map some) ∧
  WantG (fun Z t w v => Rep T Z emp t w v) T (vs.map some) s (F.run us) Q E
/-- which argument is a slot handed over for a while -/
def BorR1 (σ : St) : IE → V → Prop
  | .bor i, v => σ[i]? = some (some v)
  | _, _ => True
def BorR (σ : St) : List IE → List V → Prop
  | [], [] => True
  | a :: as, v :: vs => BorR1 σ a v ∧ BorR σ as vs
  | _, _ => False
section
variable {X : Cx} {T : Tb} {E : XK} {ρ : Nat → Fn} {e a b : Expr} {pos p : Pos} {Z L : Hp} {lk : List Nat} {σ : St} {s : Sx} {D : Ends}
/-- an argument's value: its tree, or whose slot it is -/
def ArgR1 (T : Tb) (σ : St) (Z L t : Hp) : IE → W → V → Prop
  | .bor i, _, v => σ[i]? = some (some v)
  | _, w, v => Rep T Z L t w v
theorem ArgR1.rep {i : IE} {t : Hp} {w : W} {v : V} (hn : ∀ j, i ≠ .bor j) (r : Rep T Z L t w v) : ArgR1 T σ Z L t i w v := by
  cases i <;> first | exact r | exact absurd rfl (hn _)
theorem ArgR1.of {i : IE} {t : Hp} {w : W} {v : V} (hn : ∀ j, i ≠ .bor j) (r : ArgR1 T σ Z L t i w v) : Rep T Z L t w v := by
  cases i <;> first | exact r | exact absurd rfl (hn _)
def SE1 (X : Cx) (T : Tb) (E : XK) (ρ : Nat → Fn) (e : Expr) (i : IE) : Prop := ∃ t, PE X e t ∧ ∀ (ro env : Env) (σ : St) (s : Sx) (L : Hp) (Q : VK), Hs L s → EnvR T s.Z L emp ro σ → EnvR T s.Z emp s.E env σ →
  WantG (fun Z t w v => ArgR1 T σ Z L t i w v) T σ s (ev ρ i ro env) Q E → t σ s.H Q
theorem WantG.imp {α β : Type} {R1 R2 : Hp → Hp → α → β → Prop} {r : R α} {Q : β → Hp → Prop} (h : ∀ Z t a b, R1 Z t a b → R2 Z t a b) (w : WantG R2 T σ s r Q E) : WantG R1 T σ s r Q E := by
  cases r with
  | ok x env => exact fun v s' t p e r => w v s' t p e (h _ _ _ _ r)
  | ex c x env => exact w
  | bad => exact w
theorem se1_of {i : IE} (h : SE X T E e (ev ρ i)) (hn : ∀ j, i ≠ .bor j) : SE1 X T E ρ e i := by
  obtain ⟨t, pe, h⟩ := h
  exact ⟨t, pe, fun ro env σ s L Q k rr re w => h ro env σ s L Q k rr re (w.imp fun Z t a b r => ArgR1.rep hn r)⟩
theorem se1_bor {i : Nat} (h : PE X e (tVar i)) : SE1 X T E ρ e (.bor i) := by
  refine ⟨_, h, fun ro env σ s L Q k rr re w => ?_⟩
  rw [ev] at w
  split at w
  · rename_i x hx
    obtain ⟨v, hv, r⟩ := re.get hx
    exact ⟨v, hv, w v s emp (Post.refl k) re hv⟩
  · exact w.elim
inductive ArgsR (T : Tb) (σ : St) (Z L : Hp) : Hp → List IE → List W → List V → Prop where
  | nil {t} : ArgsR T σ Z L t [] [] []
  | cons {t t1 t2 a as w ws v vs} : ArgR1 T σ Z L t1 a w v → ArgsR T σ Z L t2 as ws vs → Sub t1 t → Sub t2 t → Dj t1 t2 → ArgsR T σ Z L t (a :: as) (w :: ws) (v :: vs)
theorem ArgR1.up {Z' t : Hp} {i : IE} {w : W} {v : V} (z : Sub Z Z') (r : ArgR1 T σ Z L t i w v) : ArgR1 T σ Z' L t i w v := by
  cases i <;> first | exact r | exact Rep.up z r
theorem ArgsR.up {Z' : Hp} (z : Sub Z Z') : ∀ {t : Hp} {as : List IE} {ws : List W} {vs : List V}, ArgsR T σ Z L t as ws vs → ArgsR T σ Z' L t as ws vs
  | _, _, _, _, .nil => .nil
  | _, _, _, _, .cons r t a b d => .cons (r.up z) (t.up z) a b d
theorem ArgsR.wid : ∀ {t t' : Hp} {as : List IE} {ws : List W} {vs : List V}, Sub t t' → ArgsR T σ Z L t as ws vs → ArgsR T σ Z L t' as ws vs
  | _, _, _, _, _, _, .nil => .nil
  | _, _, _, _, _, s, .cons r t a b d => .cons r t (a.trans s) (b.trans s) d
theorem ArgsR.len : ∀ {t : Hp} {as : List IE} {ws : List W} {vs : List V}, ArgsR T σ Z L t as ws vs → vs.length = as.length
  | _, _, _, _, .nil => rfl
  | _, _, _, _, .cons _ t _ _ _ => by simp [t.len]
theorem ArgsR.app : ∀ {ta tb : Hp} {as bs : List IE} {ws ws' : List W} {vs vs' : List V}, ArgsR T σ Z L ta as ws vs → ArgsR T σ Z L tb bs ws' vs' → Dj ta tb → ArgsR T σ Z L (join ta tb) (as ++ bs) (ws ++ ws') (vs ++ vs')
  | _, _, _, _, _, _, _, _, .nil, t, d => t.wid (.joinr d)
  | _, _, _, _, _, _, _, _, .cons r0 t0 a b d0, r, d => .cons r0 (t0.app r (d.subl b)) (a.trans (.joinl _ _)) ((b.trans (.joinl _ _)).join (.joinr d)) (d0.joinr (d.subl a))
/-- the trees of all arguments, when the call comes -/
theorem take_ok : ∀ {as : List IE} {ws ws' : List W} {vs : List V} {env env' : Env} {t E : Hp}, ArgsR T σ Z L t as ws vs → EnvR T Z emp E env σ → Dj E t → takeB as ws env = some (ws', env') →
    ∃ h' E', Reps T Z L h' ws' vs ∧ BorR σ as vs ∧ EnvR T Z emp E' env' σ ∧ Sub h' (join E t) ∧ Sub E' E ∧ Dj h' E'
  | _, _, ws', _, env, env', t, E, .nil, e, d, h => by
    rw [takeB] at h
    cases h
    exact ⟨emp, E, .nil, trivial, e, .emp _, .refl _, .emp _⟩
  | a :: as, x :: ws, ws', v :: vs, env, env', t, E, .cons (t1 := t1) (t2 := t2) r rs b1 b2 d12, e, d, h => by
    by_cases hb : ∃ i, a = .bor i
    · obtain ⟨i, rfl⟩ := hb
      rw [takeB] at h
      split at h
      · rename_i w hw
        obtain ⟨p, hp, h⟩ := Option.map_eq_some_iff.mp h
        cases h
        obtain ⟨v0, h1, h2, hv, rw', e2, s1, s2, dd⟩ := e.take hw
        have r : σ[i]? = some (some v) := r
        rw [hv] at r
        cases r
        obtain ⟨h', E', q1, q2, q3, q4, q5, q6⟩ := take_ok rs e2 ((d.subl s2).subr b2) hp
        have dh : Dj h1 h' := (dd.joinr (d.subl s1 |>.subr b2)).subr q4
        refine ⟨join h1 h', E', .cons rw'.any q1 (.joinl _ _) (.joinr dh) dh, ⟨hv, q2⟩, q3, ?_, q5.trans s2, (dd.subr q5).joinl q6⟩
        exact (s1.trans (.joinl _ _)).join (q4.trans ((s2.trans (.joinl _ _)).join (b2.trans (.joinr d))))
      · cases h
    · have hn : ∀ j, a ≠ .bor j := fun j z => hb ⟨j, z⟩
      have h : (takeB as ws env).map (fun p => (x :: p.1, p.2)) = some (ws', env') := by
        rw [takeB] at h
        · exact h
        · exact hn
      obtain ⟨p, hp, h⟩ := Option.map_eq_some_iff.mp h
      cases h
      obtain ⟨h', E', q1, q2, q3, q4, q5, q6⟩ := take_ok rs e (d.subr b2) hp
      have dh : Dj t1 h' := (((d.subr b1).symm).joinr d12).subr q4
      refine ⟨join t1 h', E', .cons (r.of hn) q1 (.joinl _ _) (.joinr dh) dh, ⟨?_, q2⟩, q3, ?_, q5, ((d.subr b1).symm.subr q5).joinl q6⟩
      · cases a <;> first | trivial | exact absurd rfl (hn _)
      · exact (b1.trans (.joinr d)).join (q4.trans ((Sub.joinl _ _).join (b2.trans (.joinr d))))
theorem Post.regroup {s s1 : Sx} {t h' E' : Hp} (p : Post s s1 t) (a : Sub h' (join s1.E t)) (b : Sub E' s1.E) (d : Dj h' E') : Post s ⟨s1.Z, E', s1.H⟩ h' :=
  ⟨p.zz, p.zh, b.trans p.eh, a.trans (p.eh.join p.th), p.ze.subr b, (p.ze.joinr p.zt).subr a, d.symm, fun g x y z => by
    obtain ⟨q1, q2, q3, q4⟩ := p.fr g x y z
    exact ⟨q1, q2, q3.subr b, (q3.joinr q4).subr a⟩⟩
/-- arguments; keywords -/
def SPo (X : Cx) (T : Tb) (E : XK) (ρ : Nat → Fn) (es : List Expr) (is : List IE) : Prop := ∃ t, PA X es t ∧ ∀ (ro env : Env) (σ : St) (s : Sx) (L : Hp) (Q : List V → Hp → Prop), Hs L s → EnvR T s.Z L emp ro σ → EnvR T s.Z emp s.E env σ →
  WantG (fun Z t ws vs => ArgsR T σ Z L t is ws vs) T σ s (evs ρ is ro env) Q E → t σ s.H Q
def SKw (X : Cx) (T : Tb) (E : XK) (ρ : Nat → Fn) (kws : List Keyword) (is : List IE) : Prop := ∃ t, PK X kws t ∧ ∀ (ro env : Env) (σ : St) (s : Sx) (L : Hp) (Q : List V → Hp → Prop), Hs L s → EnvR T s.Z L emp ro σ → EnvR T s.Z emp s.E env σ →
  WantG (fun Z t ws vs => ArgsR T σ Z L t is ws vs) T σ s (evs ρ is ro env) Q E → t σ s.H Q
theorem BorR.len : ∀ {is : List IE} {vs : List V}, BorR σ is vs → vs.length = is.length
  | [], [], _ => rfl
  | [], _ :: _, h => h.elim
  | _ :: _, [], h => h.elim
  | _ :: as, _ :: vs, h => by simp [h.2.len]
theorem spo_nil : SPo X T E ρ [] [] := ⟨_, pa_nil, fun ro env σ s L Q k rr re w => by
  rw [evs] at w
  exact w [] s emp (Post.refl k) re .nil⟩
theorem skw_nil : SKw X T E ρ [] [] := ⟨_, pk_nil, fun ro env σ s L Q k rr re w => by
  rw [evs] at w
  exact w [] s emp (Post.refl k) re .nil⟩
theorem sar_core {i : IE} {is : List IE} {te : TE} {ts : (σ : St) → Hp → (List V → Hp → Prop) → Prop}
    (h : ∀ (ro env : Env) (σ : St) (s : Sx) (L : Hp) (Q : VK), Hs L s → EnvR T s.Z L emp ro σ → EnvR T s.Z emp s.E env σ → WantG (fun Z t w v => ArgR1 T σ Z L t i w v) T σ s (ev ρ i ro env) Q E → te σ s.H Q)
    (hs : ∀ (ro env : Env) (σ : St) (s : Sx) (L : Hp) (Q : List V → Hp → Prop), Hs L s → EnvR T s.Z L emp ro σ → EnvR T s.Z emp s.E env σ → WantG (fun Z t ws vs => ArgsR T σ Z L t is ws vs) T σ s (evs ρ is ro env) Q E → ts σ s.H Q)
    (ro env : Env) (σ : St) (s : Sx) (L : Hp) (Q : List V → Hp → Prop) (k : Hs L s) (rr : EnvR T s.Z L emp ro σ) (re : EnvR T s.Z emp s.E env σ) (w : WantG (fun Z t ws vs => ArgsR T σ Z L t (i :: is) ws vs) T σ s (evs ρ (i :: is) ro env) Q E) :
    te σ s.H fun v H1 => ts σ H1 fun vs H2 => Q (v :: vs) H2 := by
  rw [evs] at w
  refine h ro env σ s L _ k rr re (WantG.bind w (Post.refl k) fun x env1 v1 s1 t1 p1 e1 r1 w1 => ?_)
  obtain ⟨k1, d1⟩ := k.post p1
  refine hs ro env1 σ s1 L _ k1 (rr.up p1.zz) e1 (WantG.bind w1 p1 fun ys env2 vs s2 t2 p2 e2 r2 w2 => ?_)
  obtain ⟨a1, a2, a3, a4⟩ := p1.with p2
  exact w2 (v1 :: vs) s2 (join t1 t2) (p1.both p2) e2 (.cons (r1.up p2.zz) r2 (.joinl _ _) (.joinr a4) a4)
theorem spo_cons {i : IE} {is : List IE} {es : List Expr} (h : SE1 X T E ρ e i) (hs : SPo X T E ρ es is) (st : starEach (e :: es) X.env = (false, eval e X.env) :: starEach es X.env) : SPo X T E ρ (e :: es) (i :: is) := by
  obtain ⟨te, pe, h⟩ := h
  obtain ⟨t, pa, hs⟩ := hs
  exact ⟨_, pa_cons pe pa st, sar_core h hs⟩
theorem skw_cons {i : IE} {is : List IE} {kws : List Keyword} {nm : Option Str} {kpos : Pos} (h : SE1 X T E ρ e i) (hs : SKw X T E ρ kws is) : SKw X T E ρ (⟨nm, e, kpos⟩ :: kws) (i :: is) := by
  obtain ⟨te, pe, h⟩ := h
  obtain ⟨t, pk, hs⟩ := hs
  exact ⟨_, pk_cons pe pk, sar_core h hs⟩
theorem evs_append : ∀ (a b : List IE) (ro env : Env), evs ρ (a ++ b) ro env = (evs ρ a ro env).bind fun x env1 => (evs ρ b ro env1).bind fun y env2 => .ok (x ++ y) env2
  | [], b, ro, env => by
    rw [List.nil_append, evs, R.bind_ok]
    cases evs ρ b ro env <;> rfl
  | i :: a, b, ro, env => by
    rw [List.cons_append, evs, evs]
    cases ev ρ i ro env with
    | ok x env1 =>
      simp only [R.bind_ok]
      rw [evs_append a b ro env1]
      cases evs ρ a ro env1 with
      | ok y env2 =>
        simp only [R.bind_ok]
        cases evs ρ b ro env2 <;> rfl
      | ex _ _ _ => rfl
      | bad => rfl
    | ex _ _ _ => rfl
    | bad => rfl
theorem BorR.app : ∀ {as bs : List IE} {vs us : List V}, BorR σ as vs → BorR σ bs us → BorR σ (as ++ bs) (vs ++ us)
  | [], _, [], _, _, h => h
  | [], _, _ :: _, _, h, _ => h.elim
  | _ :: _, _, [], _, h, _ => h.elim
  | _ :: _, _, _ :: _, _, h, h2 => ⟨h.1, h.2.app h2⟩
/-- both -/
theorem sar_both {is iks : List IE} {t tk : TA}
    (h : ∀ (ro env : Env) (σ : St) (s : Sx) (L : Hp) (Q : List V → Hp → Prop), Hs L s → EnvR T s.Z L emp ro σ → EnvR T s.Z emp s.E env σ → WantG (fun Z t ws vs => ArgsR T σ Z L t is ws vs) T σ s (evs ρ is ro env) Q E → t σ s.H Q)
    (hk : ∀ (ro env : Env) (σ : St) (s : Sx) (L : Hp) (Q : List V → Hp → Prop), Hs L s → EnvR T s.Z L emp ro σ → EnvR T s.Z emp s.E env σ → WantG (fun Z t ws vs => ArgsR T σ Z L t iks ws vs) T σ s (evs ρ iks ro env) Q E → tk σ s.H Q)
    (ro env : Env) (σ : St) (s : Sx) (L : Hp) (Q : List V → Hp → Prop) (k : Hs L s) (rr : EnvR T s.Z L emp ro σ) (re : EnvR T s.Z emp s.E env σ) (w : WantG (fun Z t ws vs => ArgsR T σ Z L t (is ++ iks) ws vs) T σ s (evs ρ (is ++ iks) ro env) Q E) :
    t σ s.H fun vs H1 => tk σ H1 fun zs H2 => vs.length = is.length ∧ zs.length = iks.length ∧ Q (vs ++ zs) H2 := by
  rw [evs_append] at w
  refine h ro env σ s L _ k rr re (WantG.bind w (Post.refl k) fun x env1 v1 s1 t1 p1 e1 r1 w1 => ?_)
  obtain ⟨k1, d1⟩ := k.post p1
  refine hk ro env1 σ s1 L _ k1 (rr.up p1.zz) e1 (WantG.bind w1 p1 fun ys env2 vs s2 t2 p2 e2 r2 w2 => ?_)
  obtain ⟨a1, a2, a3, a4⟩ := p1.with p2
  exact ⟨r1.len, r2.len, w2 (v1 ++ vs) s2 (join t1 t2) (p1.both p2) e2 ((r1.up p2.zz).app r2 a4)⟩
/-! ## the arguments, shared out by how they are handed over -/
theorem args_out : ∀ {md : List Md} {ws us : List W} {vs : List V} {t : Hp}, Reps T Z L t ws vs → modeW md ws = some us → Dj L t → ∃ tl to, Sub tl t ∧ Sub to t ∧ Dj tl to ∧ us.length = md.length ∧ vs.length = md.length ∧
    EnvR T Z (join L tl) emp (roOf md us) (vs.map some) ∧ EnvR T Z emp to (envOf md us) (vs.map some)
  | [], [], us, vs, t, r, e, dl => by
    rw [modeW] at e; cases e
    cases r
    exact ⟨emp, emp, .emp _, .emp _, .emp _, rfl, rfl, .nil, .nil⟩
  | [], _ :: _, _, _, _, _, e, _ => by simp [modeW] at e
  | m :: md, [], _, _, _, _, e, _ => by cases m <;> simp [modeW] at e
  | m :: md, w :: ws, us, vs, t, r, e, dl => by
    cases r with
    | cons r tl0 a b d =>
      rename_i t1 t2 v vs
      have go : ∀ us', modeW md ws = some us' → ∃ tl to, Sub tl t2 ∧ Sub to t2 ∧ Dj tl to ∧ us'.length = md.length ∧ vs.length = md.length ∧ EnvR T Z (join L tl) emp (roOf md us') (vs.map some) ∧ EnvR T Z emp to (envOf md us') (vs.map some) :=
        fun us' h => args_out tl0 h (dl.subr b)
      have keepO : ∀ us', modeW md ws = some us' → w.lnt? = false → ∃ tl to, Sub tl t ∧ Sub to t ∧ Dj tl to ∧ (w :: us').length = (m :: md).length ∧ (v :: vs).length = (m :: md).length ∧
          EnvR T Z (join L tl) emp (none :: roOf md us') ((v :: vs).map some) ∧ EnvR T Z emp to (some w :: envOf md us') ((v :: vs).map some) := fun us' h hl => by
        obtain ⟨tl, to, x1, x2, x3, x4, x5, x6, x7⟩ := go us' h
        refine ⟨tl, join t1 to, x1.trans b, a.join (x2.trans b), (d.symm.subl x1).joinr x3, by simp [x4], by simp [x5], .non x6, ?_⟩
        exact .som (r.keep hl) x7 (.joinl _ _) (.joinr (d.subr x2)) (d.subr x2)
      cases m with
      | lent =>
        rw [modeW] at e
        obtain ⟨us', h, rfl⟩ := Option.map_eq_some_iff.mp e
        obtain ⟨tl, to, x1, x2, x3, x4, x5, x6, x7⟩ := go us' h
        have dl1 : Dj L t1 := dl.subr a
        have dl2 : Dj L tl := dl.subr (x1.trans b)
        refine ⟨join t1 tl, to, a.join (x1.trans b), x2.trans b, (d.subr x2).joinl x3, by simp [x4], by simp [x5], ?_, .non x7⟩
        refine .som (h1 := emp) (h2 := emp) (r.lent (.joinl _ _) ((Sub.joinl t1 tl).trans (.joinr (dl1.joinr dl2)))) ?_ (.emp _) (.emp _) (.emp _)
        exact x6.mono (.refl _) ((Sub.joinl L _).join ((Sub.joinr (d.subr x1)).trans (.joinr (dl1.joinr dl2)))) (.refl _)
      | bor =>
        rw [modeW] at e
        split at e
        · cases e
        · rename_i hl
          obtain ⟨us', h, rfl⟩ := Option.map_eq_some_iff.mp e
          exact keepO us' h (by simpa using hl)
      | own =>
        rw [modeW] at e
        split at e
        · cases e
        · rename_i hl
          obtain ⟨us', h, rfl⟩ := Option.map_eq_some_iff.mp e
          exact keepO us' h (by simpa using hl)
/-- what was handed over for a while comes back -/
theorem putBack_ok : ∀ {as : List IE} {bs env : Env} {vs : List V} {h h2 : Hp}, EnvR T Z emp h bs (vs.map some) → EnvR T Z emp h2 env σ → Dj h h2 → BorR σ as vs → EnvR T Z emp (join h h2) (putBack as bs env) σ
  | [], [], env, [], h, h2, _, e, d, _ => by
    rw [putBack]
    · exact e.wid (.joinr d)
    · simp
    · simp
  | [], _ :: _, _, [], _, _, e, _, _, _ => by cases e
  | [], _, _, _ :: _, _, _, _, _, _, hb => hb.elim
  | _ :: _, _, _, [], _, _, _, _, _, hb => hb.elim
  | _ :: _, [], _, _ :: _, _, _, e, _, _, _ => by cases e
  | a :: as, b :: bs, env, v :: vs, h, h2, e, e2, d, hb => by
    obtain ⟨hb1, hb2⟩ := hb
    cases e with
    | non e =>
      have q : putBack (a :: as) (none :: bs) env = putBack as bs env := by
        cases a <;> rw [putBack] <;> simp
      rw [q]
      exact putBack_ok e e2 d hb2
    | som r e a1 b1 d1 =>
      rename_i k1 k2 w
      by_cases hi : ∃ i, a = .bor i
      · obtain ⟨i, rfl⟩ := hi
        rw [putBack]
        have q := e2.put' r (d.subl a1) hb1
        refine (putBack_ok e q ((d1.symm).joinr (d.subl b1)) hb2).wid ?_
        exact (b1.trans (.joinl _ _)).join ((a1.trans (.joinl _ _)).join (.joinr d))
      · have q : putBack (a :: as) (some w :: bs) env = putBack as bs env := by
          cases a <;> first | exact absurd ⟨_, rfl⟩ hi | (rw [putBack] <;> simp)
        rw [q]
        exact (putBack_ok e e2 (d.subl b1) hb2).wid ((b1.trans (.joinl _ _)).join (.joinr d))
theorem call_post {s s1 s' : Sx} {t to tr : Hp} (p1 : Post s s1 t) (b : Sub to t) (pc : Post ⟨s1.Z, to, s1.H⟩ s' tr) : Dj s'.E s1.E ∧ Post s ⟨s'.Z, join s'.E s1.E, s'.H⟩ tr := by
  obtain ⟨x1, x2, x3, x4⟩ := pc.fr s1.E p1.eh p1.ze.symm (p1.et.subr b)
  refine ⟨x3.symm, p1.zz.trans pc.zz, pc.zh, pc.eh.join x1, pc.th, pc.ze.joinr x2.symm, pc.zt, pc.et.joinl x4, fun g x y z => ?_⟩
  obtain ⟨a1, a2, a3, a4⟩ := p1.fr g x y z
  obtain ⟨c1, c2, c3, c4⟩ := pc.fr g a1 a2 (a4.subr b)
  exact ⟨c1, c2, c3.joinr a3, c4⟩
/-! ## calls -/
theorem call_core0 {F : Fn} {as : List IE} {ws : List W} {vs : List V} {env1 : Env} {s1 : Sx} {t : Hp} {Q : VK} (k : Hs L s) (p1 : Post s s1 t) (e1 : EnvR T s1.Z emp s1.E env1 σ) (r : Reps T s1.Z L t ws vs) (hb : BorR σ as vs)
    (w : Want T L σ s (callF0 F as ws env1) Q E) : spF T F vs s1.H Q E := by
  unfold callF0 at w
  obtain ⟨k1, dl⟩ := k.post p1
  cases qm : modeW F.md ws with
  | none => rw [qm] at w; exact w.elim
  | some us =>
    rw [qm] at w
    dsimp only [bindE] at w
    obtain ⟨tl, to, b1, b2, b3, l1, l2, er, eo⟩ := args_out r qm dl
    refine ⟨us, ⟨s1.Z, to, s1.H⟩, join L tl, rfl, ⟨k1.zh, b2.trans p1.th, k1.lh.join (b1.trans p1.th), p1.zt.subr b2, k1.zl.joinl (p1.zt.subr b1).symm, (dl.subr b2).joinl b3⟩, l1, l2, er, eo, ?_⟩
    cases qr : F.run us with
    | bad => rw [qr] at w; exact w
    | ok x bs =>
      rw [qr] at w
      intro v s' tr pc eb rv
      obtain ⟨d, pp⟩ := call_post p1 b2 pc
      exact w v ⟨s'.Z, join s'.E s1.E, s'.H⟩ tr pp (putBack_ok eb (e1.up pc.zz) d hb) rv.any
    | ex c x bs =>
      rw [qr] at w
      intro cls dd s' pc eb rv
      obtain ⟨d, pp⟩ := call_post p1 b2 pc
      exact w cls dd ⟨s'.Z, join s'.E s1.E, s'.H⟩ pp (putBack_ok eb (e1.up pc.zz) d hb) rv
theorem call_core {F : Fn} {as : List IE} {ws : List W} {vs : List V} {env1 : Env} {s1 : Sx} {t : Hp} {Q : VK} (k : Hs L s) (p1 : Post s s1 t) (e1 : EnvR T s1.Z emp s1.E env1 σ) (ra : ArgsR T σ s1.Z L t as ws vs)
    (w : Want T L σ s (callFn F as ws env1) Q E) : spF T F vs s1.H Q E := by
  unfold callFn at w
  cases qt : takeB as ws env1 with
  | none => rw [qt] at w; exact w.elim
  | some pr =>
    obtain ⟨ws', env'⟩ := pr
    rw [qt] at w
    obtain ⟨h', E', r, hb, e2, y1, y2, y3⟩ := take_ok ra e1 p1.et qt
    exact call_core0 (s1 := ⟨s1.Z, E', s1.H⟩) k (p1.regroup y1 y2 y3) e2 r hb w
def CF (X : Cx) (T : Tb) (E : XK) (F : Fn) (g : PySem.Value) (n : Nat) (ks : List Str) : Prop := ∀ (pins : List (Addr × PySem.Obj)) (st : PySem.Shared) (σ : St) (H : Hp) (vs : List V) (us : List PySem.Value) (Q : VK), Inv X pins σ H st → Vals vs us → spF T F vs H Q E → vs.length = n + ks.length →
  wpAny (PySem.model X.prog X.w) X.A (PySem.call g (us.take n) (ks.zip (us.drop n))) (EP X pins σ Q) X.xe st
def tArgs (n m : Nat) (t tk : TA) (q : List V → Hp → VK → Prop) : TE := fun σ H Q => t σ H fun vs H1 => tk σ H1 fun zs H2 => vs.length = n ∧ zs.length = m ∧ q (vs ++ zs) H2 Q
theorem cf_fin {F : Fn} {g : PySem.Value} {n : Nat} {ks : List Str} (cf : CF X T E F g n ks) {pins : List (Addr × PySem.Obj)} {H : Hp} {st : PySem.Shared} {us ws : List PySem.Value} {vs zs : List V} {Q : VK} (I : Inv X pins σ H st) (ru : Vals vs us) (rw' : Vals zs ws) (l1 : vs.length = n) (l2 : zs.length = ks.length)
    (hq : spF T F (vs ++ zs) H Q E) : wpAny (PySem.model X.prog X.w) X.A (PySem.call g us (ks.zip ws)) (EP X pins σ Q) X.xe st := by
  have lu : us.length = n := by rw [← ru.length]; exact l1
  have := cf pins st σ H (vs ++ zs) (us ++ ws) Q I (ru.append rw') hq (by rw [List.length_append, l1, l2])
  rw [← lu, List.take_left, List.drop_left] at this
  exact this
theorem pe_fn {x : Str} {es : List Expr} {kws : List Keyword} {t tk : TA} {F : Fn} {fa : Addr} {ks : List Str} (cf : CF X T E F (.ref fa) (es.length + 1) ks) (hg : Gl X x) (hm : X.mg x = some (.ref fa)) (hk : PySem.W.keepIn X.K (.ref fa) = true)
    (ha : PA X (e :: es) t) (hkw : PK X kws tk) (hdb : (x == ("__debug__" : Str)) = false) (he : starEach (e :: es) X.env = (false, eval e X.env) :: starEach es X.env) (hall : (backToKw pos (keywordEach kws X.env)).all (·.1.isSome) = true)
    (hks : (backToKw pos (keywordEach kws X.env)).filterMap (·.1) = ks) (hpl : ((backTo pos (starEach (e :: es) X.env)).any (·.1) || (backToKw pos (keywordEach kws X.env)).any (·.1.isNone)) = false) :
    PE X (.Call (.Name x p) (e :: es) kws pos) (tArgs (es.length + 1) ks.length t tk fun vs H Q => spF T F vs H Q E) := by
  refine ⟨fun pins st σ H Q I h => ?_⟩
  refine wpAny_Call_Name_kw (ld_glob I hg hm ?_ hdb)
  refine PySem.W.callWith_KW (h₀ := X.base) I.ok.mod.kin hk hall (thn (ha.run pos pins st σ H _ I h) fun us s1 ⟨vs, H1, I1, r1, q⟩ => ?_) hpl he
  refine thn (hkw.run pos pins s1 σ H1 _ I1 q) fun ws s2 ⟨zs, H2, I2, rz, l1, l2, q2⟩ => ⟨I2.kIn, ?_⟩
  rw [hks]
  exact cf_fin cf I2 r1 rz l1 l2 q2
theorem pe_fn0 {x : Str} {kws : List Keyword} {tk : TA} {F : Fn} {fa : Addr} {ks : List Str} (cf : CF X T E F (.ref fa) 0 ks) (hg : Gl X x) (hm : X.mg x = some (.ref fa)) (hk : PySem.W.keepIn X.K (.ref fa) = true)
    (hkw : PK X kws tk) (hdb : (x == ("__debug__" : Str)) = false) (hall : (backToKw pos (keywordEach kws X.env)).all (·.1.isSome) = true)
    (hks : (backToKw pos (keywordEach kws X.env)).filterMap (·.1) = ks) (hpl : ((backTo pos (starEach [] X.env)).any (·.1) || (backToKw pos (keywordEach kws X.env)).any (·.1.isNone)) = false) :
    PE X (.Call (.Name x p) [] kws pos) (fun σ H Q => tk σ H fun zs H2 => zs.length = ks.length ∧ spF T F zs H2 Q E) := by
  refine ⟨fun pins st σ H Q I h => ?_⟩
  refine wpAny_Call_Name_kw (ld_glob I hg hm ?_ hdb)
  refine PySem.W.callWith_KW0 (h₀ := X.base) I.ok.mod.kin hk hall (thn (hkw.run pos pins st σ H _ I h) fun ws s2 ⟨zs, H2, I2, rz, l2, q2⟩ => ⟨I2.kIn, ?_⟩) hpl
  rw [hks]
  exact cf_fin (us := []) (vs := []) cf I2 .nil rz rfl l2 q2
theorem want_args {α : Type} {ws : List IE} {f : List W → Env → R W} {ro env : Env} {Q : VK} (k : Hs L s) (w : Want T L σ s ((evs ρ ws ro env).bind f) Q E) {Q' : List V → Hp → Prop}
    (h : ∀ us env1 vs s1 t, Post s s1 t → EnvR T s1.Z emp s1.E env1 σ → ArgsR T σ s1.Z L t ws us vs → Want T L σ s (f us env1) Q E → Q' vs s1.H) :
    WantG (fun Z t us vs => ArgsR T σ Z L t ws us vs) T σ s (evs ρ ws ro env) Q' E :=
  WantG.bind w (Post.refl k) fun us env1 vs s1 t p e r w1 => h us env1 vs s1 t p e r w1
theorem se_call {x : Str} {es : List Expr} {kws : List Keyword} {is iks : List IE} {f : Nat} {fa : Addr} {ks : List Str} (cf : CF X T E (ρ f) (.ref fa) (es.length + 1) ks) (hg : Gl X x) (hm : X.mg x = some (.ref fa)) (hk : PySem.W.keepIn X.K (.ref fa) = true)
    (ha : SPo X T E ρ (e :: es) is) (hkw : SKw X T E ρ kws iks) (hdb : (x == ("__debug__" : Str)) = false) (he : starEach (e :: es) X.env = (false, eval e X.env) :: starEach es X.env) (hall : (backToKw pos (keywordEach kws X.env)).all (·.1.isSome) = true)
    (hks : (backToKw pos (keywordEach kws X.env)).filterMap (·.1) = ks) (hpl : ((backTo pos (starEach (e :: es) X.env)).any (·.1) || (backToKw pos (keywordEach kws X.env)).any (·.1.isNone)) = false) (hl : is.length = es.length + 1) (hlk : iks.length = ks.length) :
    SE X T E (.Call (.Name x p) (e :: es) kws pos) (ev ρ (.call f (is ++ iks))) := by
  obtain ⟨t, pa, ha⟩ := ha
  obtain ⟨tk, pk, hkw⟩ := hkw
  refine ⟨_, pe_fn cf hg hm hk pa pk hdb he hall hks hpl, fun ro env σ s L Q k rr re w => ?_⟩
  rw [ev] at w
  have := sar_both ha hkw ro env σ s L (fun vs H => spF T (ρ f) vs H Q E) k rr re (want_args (α := Nat) k w fun us env1 vs s1 t p1 e1 r w1 => call_core k p1 e1 r w1)
  rw [hl, hlk] at this
  exact this
theorem se_call0 {x : Str} {kws : List Keyword} {iks : List IE} {f : Nat} {fa : Addr} {ks : List Str} (cf : CF X T E (ρ f) (.ref fa) 0 ks) (hg : Gl X x) (hm : X.mg x = some (.ref fa)) (hk : PySem.W.keepIn X.K (.ref fa) = true)
    (hkw : SKw X T E ρ kws iks) (hdb : (x == ("__debug__" : Str)) = false) (hall : (backToKw pos (keywordEach kws X.env)).all (·.1.isSome) = true)
    (hks : (backToKw pos (keywordEach kws X.env)).filterMap (·.1) = ks) (hpl : ((backTo pos (starEach [] X.env)).any (·.1) || (backToKw pos (keywordEach kws X.env)).any (·.1.isNone)) = false) (hlk : iks.length = ks.length) :
    SE X T E (.Call (.Name x p) [] kws pos) (ev ρ (.call f iks)) := by
  obtain ⟨tk, pk, hkw⟩ := hkw
  refine ⟨_, pe_fn0 cf hg hm hk pk hdb hall hks hpl, fun ro env σ s L Q k rr re w => ?_⟩
  rw [ev] at w
  exact hkw ro env σ s L _ k rr re (want_args (α := Nat) k w fun us env1 vs s1 t p1 e1 r w1 => ⟨by rw [r.len]; exact hlk, call_core k p1 e1 r w1⟩)
/-! ## methods -/
theorem pe_methF {m : Str} {apos : Pos} {es : List Expr} {o : Expr} {ta : TE} {t : TA} {pl : PySem.Sem Bool} {C fa : Addr} {F : Fn} (he : PE X o ta) (c : Cls X.K C) (hm : Meth X.K C m fa) (cf : CF X T E F (.ref fa) (es.length + 2) []) (ha : PA X (e :: es) t)
    (hst : starEach (e :: es) X.env = (false, eval e X.env) :: starEach es X.env) (hpl : (backTo pos (starEach es X.env)).any (·.1) = false)
    (ht : eval (.Call (.Attribute o m apos) (e :: es) [] pos) X.env = (do
      let ov ← eval o X.env
      standAt apos.atName
      let (f, first) ← holding [ov] (getMethod ov m pl)
      callWith pos f first (backTo pos (starEach (e :: es) X.env)) (backToKw pos (keywordEach [] X.env)))) :
    PE X (.Call (.Attribute o m apos) (e :: es) [] pos) (fun σ H Q => ta σ H fun x H1 => ∃ a dx fs, x = .ref a ∧ H1 a = some (.ins C dx fs) ∧ fs.lookup m = none ∧ t σ H1 fun vs H2 => vs.length = es.length + 1 ∧ spF T F (x :: vs) H2 Q E) := by
  refine ⟨fun pins st σ H Q I h => ?_⟩
  refine PySem.W.methodCall_KW (pl := pl) (thn (he.run pins st σ H _ I h) fun u s1 ⟨x, H1, I1, rx, a, dx, fs, ex, ea, l, q⟩ => ?_) ht
  subst ex
  obtain rfl : u = PySem.Value.ref a := rx
  refine getmeth_ok I1 ea c hm l ?_
  refine PySem.W.callWith_K (h₀ := X.base) (first := [.ref a]) I.ok.mod.kin hm.kp (thn (ha.run pos pins s1 σ H1 _ I1 q) fun us s2 ⟨vs, H2, I2, r, hl, q2⟩ => ⟨I2.kIn, ?_⟩) hst hpl
  exact cf_fin (us := .ref a :: us) (vs := .ref a :: vs) (ws := []) (zs := []) cf I2 (.cons rfl r) .nil (by simp [hl]) rfl (by rw [List.append_nil]; exact q2)
theorem pe_methF0 {m : Str} {apos : Pos} {o : Expr} {ta : TE} {pl : PySem.Sem Bool} {C fa : Addr} {F : Fn} (he : PE X o ta) (c : Cls X.K C) (hm : Meth X.K C m fa) (cf : CF X T E F (.ref fa) 1 [])
    (ht : eval (.Call (.Attribute o m apos) [] [] pos) X.env = (do
      let ov ← eval o X.env
      standAt apos.atName
      let (f, first) ← holding [ov] (getMethod ov m pl)
      callWith pos f first (backTo pos (starEach [] X.env)) (backToKw pos (keywordEach [] X.env)))) :
    PE X (.Call (.Attribute o m apos) [] [] pos) (fun σ H Q => ta σ H fun x H1 => ∃ a dx fs, x = .ref a ∧ H1 a = some (.ins C dx fs) ∧ fs.lookup m = none ∧ spF T F [x] H1 Q E) := by
  refine ⟨fun pins st σ H Q I h => ?_⟩
  refine PySem.W.methodCall_KW (pl := pl) (thn (he.run pins st σ H _ I h) fun u s1 ⟨x, H1, I1, rx, a, dx, fs, ex, ea, l, q⟩ => ?_) ht
  subst ex
  obtain rfl : u = PySem.Value.ref a := rx
  refine getmeth_ok I1 ea c hm l ?_
  exact PySem.W.callWith_K0 (first := [.ref a]) I1.kIn hm.kp (cf_fin (us := [.ref a]) (vs := [.ref a]) (ws := []) (zs := []) cf I1 (.cons rfl .nil) .nil rfl rfl q)
theorem lookup_none {nm : Nat → Str} (inj : ∀ i j : Nat, nm i = nm j → i = j) : ∀ {fs : List (Nat × W)} {vs : List (Str × V)} {f : Nat}, (fs.map (·.1)).map nm = vs.map (·.1) → fs.lookup f = none → vs.lookup (nm f) = none
  | [], [], _, _, _ => rfl
  | [], _ :: _, _, e, _ => by simp at e
  | _ :: _, [], _, e, _ => by simp at e
  | (i, x) :: fs, (n, y) :: vs, f, e, l => by
    simp only [List.map_cons, List.cons.injEq] at e
    rw [List.lookup_cons] at l
    cases hf : (f == i) with
    | true => rw [hf] at l; cases l
    | false =>
      rw [hf] at l
      have hn : (nm f == n) = false := by
        rw [← e.1]
        have hf' : ¬ f = i := by simpa using hf
        simpa using fun z => hf' (inj _ _ z)
      rw [List.lookup_cons, hn]
      exact lookup_none inj e.2 l
/-- the receiver's class -/
theorem recv_cls {m : Fl} {c mi : Nat} {fs : List (Nat × W)} {v : V} {t1 : Hp} (k : Hs L s) (th : Sub t1 s.H) (r : Rep T s.Z L t1 (.ins m c fs) v) (h : (fs.lookup mi).isNone = true) : ∃ a dx vs, v = .ref a ∧ s.H a = some (.ins (T.cl c) dx vs) ∧ vs.lookup (T.nm mi) = none := by
  cases r with
  | ins q1 q2 kd n1 n2 ek rk =>
    rename_i hc a dx vs
    refine ⟨a, dx, vs, rfl, ?_, lookup_none T.inj ek (by simpa using h)⟩
    cases m with
    | own => exact th _ _ q1
    | frz => exact k.zh _ _ q1
    | lnt => exact k.lh _ _ q1
theorem recv_ok {ir : IE} {x : W} {m : Fl} {c mi : Nat} {fs : List (Nat × W)} {v : V} {t1 : Hp} {env1 : Env} (k : Hs L s) (th : Sub t1 s.H) (r : ArgR1 T σ s.Z L t1 ir x v) (e : EnvR T s.Z emp s.E env1 σ) (hr : recvW ir x env1 = some (.ins m c fs)) (h : (fs.lookup mi).isNone = true) :
    ∃ a dx vs, v = .ref a ∧ s.H a = some (.ins (T.cl c) dx vs) ∧ vs.lookup (T.nm mi) = none := by
  by_cases hb : ∃ i, ir = .bor i
  · obtain ⟨i, rfl⟩ := hb
    have hr : (match env1[i]? with | some (some w) => some w | _ => none) = some (W.ins m c fs) := hr
    split at hr
    · rename_i w hw
      cases hr
      obtain ⟨v', hv, r'⟩ := e.get hw
      have r : σ[i]? = some (some v) := r
      rw [hv] at r
      cases r
      exact recv_cls k k.eh (r'.any (L := L)) h
    · cases hr
  · have hn : ∀ j, ir ≠ .bor j := fun j z => hb ⟨j, z⟩
    have hx : x = .ins m c fs := by
      cases ir <;> first | exact Option.some.inj hr | exact absurd rfl (hn _)
    subst hx
    exact recv_cls k th (r.of hn) h
theorem se_meth {c0 mi f : Nat} {apos : Pos} {es : List Expr} {o : Expr} {ir : IE} {is : List IE} {pl : PySem.Sem Bool} {fa : Addr} (he : SE1 X T E ρ o ir) (c : Cls X.K (T.cl c0)) (hm : Meth X.K (T.cl c0) (T.nm mi) fa) (cf : CF X T E (ρ f) (.ref fa) (es.length + 2) []) (ha : SPo X T E ρ (e :: es) is)
    (hst : starEach (e :: es) X.env = (false, eval e X.env) :: starEach es X.env) (hpl : (backTo pos (starEach es X.env)).any (·.1) = false) (hl : is.length = es.length + 1)
    (ht : eval (.Call (.Attribute o (T.nm mi) apos) (e :: es) [] pos) X.env = (do
      let ov ← eval o X.env
      standAt apos.atName
      let (f, first) ← holding [ov] (getMethod ov (T.nm mi) pl)
      callWith pos f first (backTo pos (starEach (e :: es) X.env)) (backToKw pos (keywordEach [] X.env)))) :
    SE X T E (.Call (.Attribute o (T.nm mi) apos) (e :: es) [] pos) (ev ρ (.meth c0 mi f ir is)) := by
  obtain ⟨ta, pe, he⟩ := he
  obtain ⟨t, pa, ha⟩ := ha
  refine ⟨_, pe_methF pe c hm cf pa hst hpl ht, fun ro env σ s L Q k rr re w => ?_⟩
  rw [ev] at w
  refine he ro env σ s L _ k rr re (WantG.bind w (Post.refl k) fun x env1 v1 s1 t1 p1 e1 r1 w1 => ?_)
  obtain ⟨k1, d1⟩ := k.post p1
  split at w1
  · rename_i mf c' fs hrw
    split at w1
    · rename_i hcc
      obtain ⟨rfl, hn⟩ := hcc
      obtain ⟨a', dx, vs, rfl, q1, q2⟩ := recv_ok k1 p1.th r1 e1 hrw hn
      refine ⟨a', dx, vs, rfl, q1, q2, ?_⟩
      refine ha ro env1 σ s1 L _ k1 (rr.up p1.zz) e1 (WantG.bind w1 p1 fun us env2 vs2 s2 t2 p2 e2 r2 w2 => ?_)
      obtain ⟨a1, a2, a3, a4⟩ := p1.with p2
      exact ⟨by rw [r2.len]; exact hl, call_core (as := ir :: is) k (p1.both p2) e2 (.cons (r1.up p2.zz) r2 (.joinl _ _) (.joinr a4) a4) w2⟩
    · exact w1.elim
  · exact w1.elim
theorem se_meth0 {c0 mi f : Nat} {apos : Pos} {o : Expr} {ir : IE} {pl : PySem.Sem Bool} {fa : Addr} (he : SE1 X T E ρ o ir) (c : Cls X.K (T.cl c0)) (hm : Meth X.K (T.cl c0) (T.nm mi) fa) (cf : CF X T E (ρ f) (.ref fa) 1 [])
    (ht : eval (.Call (.Attribute o (T.nm mi) apos) [] [] pos) X.env = (do
      let ov ← eval o X.env
      standAt apos.atName
      let (f, first) ← holding [ov] (getMethod ov (T.nm mi) pl)
      callWith pos f first (backTo pos (starEach [] X.env)) (backToKw pos (keywordEach [] X.env)))) :
    SE X T E (.Call (.Attribute o (T.nm mi) apos) [] [] pos) (ev ρ (.meth c0 mi f ir [])) := by
  obtain ⟨ta, pe, he⟩ := he
  refine ⟨_, pe_methF0 pe c hm cf ht, fun ro env σ s L Q k rr re w => ?_⟩
  rw [ev] at w
  refine he ro env σ s L _ k rr re (WantG.bind w (Post.refl k) fun x env1 v1 s1 t1 p1 e1 r1 w1 => ?_)
  obtain ⟨k1, d1⟩ := k.post p1
  split at w1
  · rename_i mf c' fs hrw
    split at w1
    · rename_i hcc
      obtain ⟨rfl, hn⟩ := hcc
      rw [evs] at w1
      obtain ⟨a', dx, vs, rfl, q1, q2⟩ := recv_ok k1 p1.th r1 e1 hrw hn
      exact ⟨a', dx, vs, rfl, q1, q2, call_core (as := [ir]) k p1 e1 (.cons r1 .nil (.refl _) (.emp _) (.emp' _)) w1⟩
    · exact w1.elim
  · exact w1.elim
end
end VL
set_option Elab.async false
set_option linter.all false
set_option maxRecDepth 100000
set_option maxHeartbeats 1000000
namespace VL
open PySem L2
open PyProof.Rows (envOfC)
/-! ## a def under way, no guard around it -/
structure FnG (P : Program) (w : World) (K : PySem.W.Frag) (mg : Str → Option Value) (base : Heap) (CT : CXT) (k : Nat) (f : Addr) (fd : FuncData) (ps : List Str) (sp : Sp) : Prop where
  len : ∀ vs H Q E, sp vs H Q E → vs.length = ps.length
  go : ∀ (A : Around) (fr : List PySem.Env) (st : Shared) (H : Hp) (args : Args) (us : List Value) (vs : List V) (Q : VK) (E : XK), Room k A → A.guards = some [] → Env0 P w K mg base A fr st H → BindsTo st fd args (ps.zip us) →
    Vals vs us → sp vs H Q E → codeAny (model P w) A (.call (.ref f) args) (CR CT fr P w H st Q E) st
theorem FnG.mono {P : Program} {w : World} {K : PySem.W.Frag} {mg : Str → Option Value} {base : Heap} {CT : CXT} {j k : Nat} {f : Addr} {fd : FuncData} {ps : List Str} {sp : Sp} (F : FnG P w K mg base CT j f fd ps sp) (h : j ≤ k) : FnG P w K mg base CT k f fd ps sp :=
  ⟨F.len, fun A fr st H args us vs Q E hr => F.go A fr st H args us vs Q E (hr.mono h)⟩
section
variable {X : Cx} {T : Tb} {E : XK} {ρ : Nat → Fn} {pos p : Pos} {Z L : Hp} {σ : St} {s : Sx} {CT : CXT} {k : Nat}
theorem cf_of {F F0 : Fn} {fa : Addr} {fd : FuncData} {ps ks : List Str} {n : Nat} {g : List Value → List Value} {gV : List V → List V} (G : FnG X.prog X.w X.K X.mg X.base CT k fa fd ps (spF T F0)) (hr : Room k X.A) (ga : X.A.guards = some []) (hx : Passes CT X E)
    (hb : ∀ (st : Shared) (us : List Value), X.K.In st.heap → us.length = n + ks.length → BindsTo st fd ⟨us.take n, ks.zip (us.drop n)⟩ (ps.zip (g us))) (rel : ∀ {vs us}, Vals vs us → vs.length = n + ks.length → Vals (gV vs) (g us))
    (imp : ∀ vs H Q, vs.length = n + ks.length → spF T F vs H Q E → spF T F0 (gV vs) H Q E) : CF X T E F (.ref fa) n ks := by
  intro pins st σ H vs us Q I r hs hl
  refine wpAny_call (codeAny_mono (G.go X.A X.stack st H _ (g us) (gV vs) Q E hr ga I.env0 (hb st us I.kIn (by rw [← r.length]; exact hl)) (rel r hl) (imp vs H Q hl hs)) fun res st' hq => ?_)
  match res, hq with
  | .error ex, hq => exact hx pins σ H st ex st' I hq
  | .ok (.ret u), hq => exact I.after hq
/-- all by place -/
theorem cf_pos {F : Fn} {fa : Addr} {fd : FuncData} {ps : List Str} {n : Nat} (G : FnG X.prog X.w X.K X.mg X.base CT k fa fd ps (spF T F)) (hr : Room k X.A) (ga : X.A.guards = some []) (hx : Passes CT X E)
    (hb : ∀ (us : List Value), us.length = n → bindArgs fd ⟨us, []⟩ = pure (ps.zip us)) : CF X T E F (.ref fa) n [] :=
  cf_of (g := id) (gV := id) G hr ga hx (fun st us _ hl => .of_eq (by
    have hl' : us.length = n := by simpa using hl
    rw [← hl', List.take_length, List.zip_nil_left]; exact hb us hl')) (fun r _ => r) fun _ _ _ _ h => h
/-! ## a class called -/
def CMk (X : Cx) (T : Tb) (E : XK) (F : Fn) (c : Nat) (n : Nat) (ks : List Str) : Prop := ∀ (pins : List (Addr × Obj)) (st : Shared) (σ : St) (H : Hp) (vs : List V) (us : List Value) (Q : VK), Inv X pins σ H st → Vals vs us →
  (∀ x dx, H x = none → H dx = none → dx ≠ x → spF T F (.ref x :: vs) (upd (upd H dx (.own x)) x (.ins (T.cl c) dx [])) (fun v H2 => v = .non ∧ Q (.ref x) H2) E) → vs.length = n + ks.length →
  wpAny (model X.prog X.w) X.A (call (.ref (T.cl c)) (us.take n) (ks.zip (us.drop n))) (EP X pins σ Q) X.xe st
theorem cm_pos {F : Fn} {c n : Nat} {fa : Addr} {fd : FuncData} {ps : List Str} (M : Mk X.K (T.cl c) fa) (G : FnG X.prog X.w X.K X.mg X.base CT k fa fd ps (spF T F)) (hr : Room (k + 1) X.A) (ga : X.A.guards = some []) (hx : Passes CT X E)
    (hb : ∀ (us : List Value), us.length = n + 1 → bindArgs fd ⟨us, []⟩ = pure (ps.zip us)) : CMk X T E F c n [] := by
  intro pins st σ H vs us Q I r hs hl
  have hl1 : us.length = n := by rw [← r.length]; simpa using hl
  rw [← hl1, List.take_length, List.zip_nil_left]
  have hq := hs (st.heap.objs.size + 1) st.heap.objs.size (I.hok.fresh (Nat.le_succ _)) (I.hok.fresh (Nat.le_refl _)) (Nat.ne_of_lt (Nat.lt_succ_self _))
  have I2 := Inv.made (C := T.cl c) I
  have r2 : Vals (V.ref (st.heap.objs.size + 1) :: vs) (Value.ref (st.heap.objs.size + 1) :: us) := .cons rfl r
  refine wpAny_call (make_map (f := fa) I.kIn M.makes M.init (beq_iff_eq.mp M.fn) (codeAny_mono (G.go _ X.stack _ _ ⟨_ :: us, []⟩ _ _ _ E (hr.make (T.cl c) us []) ?_ (I2.env0.make (T.cl c) us []) (.of_eq (hb _ (by simp [hl1]))) r2 hq) fun res st' hz => ?_))
  · first | exact ga | (simpa [Around.under, Code.guards, pushGuards] using ga)
  · match res, hz with
    | .error ex, hz => exact hx pins σ _ _ ex st' I2 hz
    | .ok (.ret u), hz =>
      obtain ⟨v, H', I3, rv, ev, q3⟩ := I2.after hz
      subst ev
      exact ⟨rv, ⟨V.ref (st.heap.objs.size + 1), H', I3, rfl, q3⟩⟩
theorem Post.out {s s1 : Sx} {t h1 E' : Hp} (q : Post s s1 t) (a : Sub h1 s1.E) (b : Sub E' s1.E) (d : Dj h1 E') : Post s ⟨s1.Z, E', s1.H⟩ h1 :=
  ⟨q.zz, q.zh, b.trans q.eh, a.trans q.eh, q.ze.subr b, q.ze.subr a, d.symm, fun g x y z => by
    obtain ⟨p1, p2, p3, _⟩ := q.fr g x y z
    exact ⟨p1, p2, p3.subr b, p3.subr a⟩⟩
theorem make_core0 {F : Fn} {c : Nat} {as : List IE} {ws : List W} {vs : List V} {env1 : Env} {s1 : Sx} {t : Hp} {Q : VK} (k : Hs L s) (p1 : Post s s1 t) (e1 : EnvR T s1.Z emp s1.E env1 σ) (r : Reps T s1.Z L t ws vs) (hb : BorR σ as vs)
    (w : Want T L σ s (makeF0 F c as ws env1) Q E) : ∀ x dx, s1.H x = none → s1.H dx = none → dx ≠ x → spF T F (.ref x :: vs) (upd (upd s1.H dx (.own x)) x (.ins (T.cl c) dx [])) (fun v H2 => v = .non ∧ Q (.ref x) H2) E := by
  intro x dx hx hdx hne
  unfold makeF0 at w
  obtain ⟨k1, dl⟩ := k.post p1
  have pa := Post.newT k1 (p := dx) (o := .own x) hdx
  obtain ⟨k2, _⟩ := k1.post pa
  have hx2 : (upd s1.H dx (HO.own x)) x = none := by rw [upd_ne hne.symm]; exact hx
  have pb := Post.newT (s := ⟨s1.Z, s1.E, upd s1.H dx (.own x)⟩) k2 (p := x) (o := .ins (T.cl c) dx []) hx2
  have p2 := (p1.both pa).both pb
  have dj1 : Dj t (one dx (.own x)) := (Dj.one (p1.th.none hdx)).symm
  have dj2 : Dj (join t (one dx (.own x))) (one x (.ins (T.cl c) dx [])) := (Dj.one (join_none (p1.th.none hx) (one_ne hne.symm))).symm
  have dj3 : Dj (one dx (HO.own x)) (one x (.ins (T.cl c) dx [])) := (Dj.one (one_ne hne.symm)).symm
  have rep1 : Rep T s1.Z L (join (one dx (.own x)) (one x (.ins (T.cl c) dx []))) (.ins .own c []) (.ref x) :=
    .ins (m := .own) (hc := emp) (dx := dx) (vs := []) (Sub.joinr dj3 _ _ one_at) (Sub.joinl _ _ _ _ one_at) ⟨.emp _, fun z => absurd rfl z⟩ rfl rfl rfl .nil
  have sub1 : Sub (join (one dx (HO.own x)) (one x (.ins (T.cl c) dx []))) (join (join t (one dx (.own x))) (one x (.ins (T.cl c) dx []))) := ((Sub.joinr dj1).trans (.joinl _ _)).join (.joinr dj2)
  have sub2 : Sub t (join (join t (one dx (.own x))) (one x (.ins (T.cl c) dx []))) := (Sub.joinl _ _).trans (.joinl _ _)
  have dj4 : Dj (join (one dx (HO.own x)) (one x (.ins (T.cl c) dx []))) t := dj1.symm.joinl (dj2.subl (.joinl _ _)).symm
  have r2 : Reps T s1.Z L (join (join t (one dx (.own x))) (one x (.ins (T.cl c) dx []))) (.ins .own c [] :: ws) (.ref x :: vs) := .cons rep1 r sub1 sub2 dj4
  cases qm : modeW F.md (.ins .own c [] :: ws) with
  | none => rw [qm] at w; exact w.elim
  | some us =>
    rw [qm] at w
    dsimp only [bindE] at w
    obtain ⟨k3, dl2⟩ := k.post p2
    obtain ⟨tl, to, b1, b2, b3, l1, l2, er, eo⟩ := args_out r2 qm dl2
    refine ⟨us, ⟨s1.Z, to, upd (upd s1.H dx (.own x)) x (.ins (T.cl c) dx [])⟩, join L tl, rfl, ⟨k3.zh, b2.trans p2.th, k3.lh.join (b1.trans p2.th), p2.zt.subr b2, k3.zl.joinl (p2.zt.subr b1).symm, (dl2.subr b2).joinl b3⟩, l1, l2, er, eo, ?_⟩
    cases qr : F.run us with
    | bad => rw [qr] at w; exact w
    | ok y bs =>
      rw [qr] at w
      intro v s' tr pc eb rv
      cases y with
      | non =>
        cases rv
        refine ⟨rfl, ?_⟩
        cases bs with
        | nil => exact w.elim
        | cons b bs =>
          cases b with
          | none => exact w.elim
          | some y =>
            cases eb with
            | som ry eb c1 c2 c3 =>
              rename_i h1 h2
              obtain ⟨d, pp⟩ := call_post p2 b2 pc
              have pout := pp.out (h1 := h1) (E' := join h2 s1.E) (c1.trans (.joinl _ _)) ((c2.trans (.joinl _ _)).join (.joinr d)) (c3.joinr (d.subl c1))
              exact w (.ref x) ⟨s'.Z, join h2 s1.E, s'.H⟩ h1 pout (putBack_ok eb (e1.up pc.zz) (d.subl c2) hb) ry.any
      | _ => exact w.elim
    | ex cc y bs =>
      rw [qr] at w
      intro cls dd s' pc eb rv
      obtain ⟨d, pp⟩ := call_post p2 b2 pc
      cases bs with
      | nil => exact w.elim
      | cons b bs =>
        have eb' : EnvR T s'.Z emp s'.E bs (vs.map some) := by
          cases eb with
          | non eb => exact eb
          | som _ eb _ c2 _ => exact eb.wid c2
        exact w cls dd ⟨s'.Z, join s'.E s1.E, s'.H⟩ pp (putBack_ok eb' (e1.up pc.zz) d hb) rv
theorem make_core {F : Fn} {c : Nat} {as : List IE} {ws : List W} {vs : List V} {env1 : Env} {s1 : Sx} {t : Hp} {Q : VK} (k : Hs L s) (p1 : Post s s1 t) (e1 : EnvR T s1.Z emp s1.E env1 σ) (ra : ArgsR T σ s1.Z L t as ws vs)
    (w : Want T L σ s (makeFn F c as ws env1) Q E) : ∀ x dx, s1.H x = none → s1.H dx = none → dx ≠ x → spF T F (.ref x :: vs) (upd (upd s1.H dx (.own x)) x (.ins (T.cl c) dx [])) (fun v H2 => v = .non ∧ Q (.ref x) H2) E := by
  unfold makeFn at w
  cases qt : takeB as ws env1 with
  | none => rw [qt] at w; exact w.elim
  | some pr =>
    obtain ⟨ws', env'⟩ := pr
    rw [qt] at w
    obtain ⟨h', E', r, hb, e2, y1, y2, y3⟩ := take_ok ra e1 p1.et qt
    exact make_core0 (s1 := ⟨s1.Z, E', s1.H⟩) k (p1.regroup y1 y2 y3) e2 r hb w
theorem cm_fin {F : Fn} {c n : Nat} {ks : List Str} (cf : CMk X T E F c n ks) {pins : List (Addr × Obj)} {H : Hp} {st : Shared} {us ws : List Value} {vs zs : List V} {Q : VK} (I : Inv X pins σ H st) (ru : Vals vs us) (rw' : Vals zs ws) (l1 : vs.length = n) (l2 : zs.length = ks.length)
    (hq : ∀ x dx, H x = none → H dx = none → dx ≠ x → spF T F (.ref x :: (vs ++ zs)) (upd (upd H dx (.own x)) x (.ins (T.cl c) dx [])) (fun v H2 => v = .non ∧ Q (.ref x) H2) E) : wpAny (model X.prog X.w) X.A (call (.ref (T.cl c)) us (ks.zip ws)) (EP X pins σ Q) X.xe st := by
  have lu : us.length = n := by rw [← ru.length]; exact l1
  have := cf pins st σ H (vs ++ zs) (us ++ ws) Q I (ru.append rw') hq (by rw [List.length_append, l1, l2])
  rw [← lu, List.take_left, List.drop_left] at this
  exact this
theorem se_make {x : Str} {e : Expr} {es : List Expr} {kws : List Keyword} {is iks : List IE} {f c : Nat} {ks : List Str} (cf : CMk X T E (ρ f) c (es.length + 1) ks) (hg : Gl X x) (hm : X.mg x = some (.ref (T.cl c))) (hk : PySem.W.keepIn X.K (.ref (T.cl c)) = true)
    (ha : SPo X T E ρ (e :: es) is) (hkw : SKw X T E ρ kws iks) (hdb : (x == ("__debug__" : Str)) = false) (he : starEach (e :: es) X.env = (false, eval e X.env) :: starEach es X.env) (hall : (backToKw pos (keywordEach kws X.env)).all (·.1.isSome) = true)
    (hks : (backToKw pos (keywordEach kws X.env)).filterMap (·.1) = ks) (hpl : ((backTo pos (starEach (e :: es) X.env)).any (·.1) || (backToKw pos (keywordEach kws X.env)).any (·.1.isNone)) = false) (hl : is.length = es.length + 1) (hlk : iks.length = ks.length) :
    SE X T E (.Call (.Name x p) (e :: es) kws pos) (ev ρ (.make c f (is ++ iks))) := by
  obtain ⟨t, pa, ha⟩ := ha
  obtain ⟨tk, pk, hkw⟩ := hkw
  refine ⟨fun σ H Q => t σ H fun vs H1 => tk σ H1 fun zs H2 => vs.length = es.length + 1 ∧ zs.length = ks.length ∧ ∀ x dx, H2 x = none → H2 dx = none → dx ≠ x → spF T (ρ f) (.ref x :: (vs ++ zs)) (upd (upd H2 dx (.own x)) x (.ins (T.cl c) dx [])) (fun v H3 => v = .non ∧ Q (.ref x) H3) E, ⟨fun pins st σ H Q I h => ?_⟩, fun ro env σ s L Q k rr re w => ?_⟩
  · refine wpAny_Call_Name_kw (ld_glob I hg hm ?_ hdb)
    refine PySem.W.callWith_KW (h₀ := X.base) I.ok.mod.kin hk hall (thn (pa.run pos pins st σ H _ I h) fun us s1 ⟨vs, H1, I1, r1, q⟩ => ?_) hpl he
    refine thn (pk.run pos pins s1 σ H1 _ I1 q) fun ws s2 ⟨zs, H2, I2, rz, l1, l2, q2⟩ => ⟨I2.kIn, ?_⟩
    rw [hks]
    exact cm_fin cf I2 r1 rz l1 l2 q2
  · rw [ev] at w
    have := sar_both ha hkw ro env σ s L (fun vs H => ∀ x dx, H x = none → H dx = none → dx ≠ x → spF T (ρ f) (.ref x :: vs) (upd (upd H dx (.own x)) x (.ins (T.cl c) dx [])) (fun v H3 => v = .non ∧ Q (.ref x) H3) E) k rr re (want_args (α := Nat) k w fun us env1 vs s1 t p1 e1 r w1 => make_core k p1 e1 r w1)
    rw [hl, hlk] at this
    exact this
theorem se_make0 {x : Str} {kws : List Keyword} {iks : List IE} {f c : Nat} {ks : List Str} (cf : CMk X T E (ρ f) c 0 ks) (hg : Gl X x) (hm : X.mg x = some (.ref (T.cl c))) (hk : PySem.W.keepIn X.K (.ref (T.cl c)) = true)
    (hkw : SKw X T E ρ kws iks) (hdb : (x == ("__debug__" : Str)) = false) (hall : (backToKw pos (keywordEach kws X.env)).all (·.1.isSome) = true)
    (hks : (backToKw pos (keywordEach kws X.env)).filterMap (·.1) = ks) (hpl : ((backTo pos (starEach [] X.env)).any (·.1) || (backToKw pos (keywordEach kws X.env)).any (·.1.isNone)) = false) (hlk : iks.length = ks.length) :
    SE X T E (.Call (.Name x p) [] kws pos) (ev ρ (.make c f iks)) := by
  obtain ⟨tk, pk, hkw⟩ := hkw
  refine ⟨fun σ H Q => tk σ H fun zs H2 => zs.length = ks.length ∧ ∀ x dx, H2 x = none → H2 dx = none → dx ≠ x → spF T (ρ f) (.ref x :: zs) (upd (upd H2 dx (.own x)) x (.ins (T.cl c) dx [])) (fun v H3 => v = .non ∧ Q (.ref x) H3) E, ⟨fun pins st σ H Q I h => ?_⟩, fun ro env σ s L Q k rr re w => ?_⟩
  · refine wpAny_Call_Name_kw (ld_glob I hg hm ?_ hdb)
    refine PySem.W.callWith_KW0 (h₀ := X.base) I.ok.mod.kin hk hall (thn (pk.run pos pins st σ H _ I h) fun ws s2 ⟨zs, H2, I2, rz, l2, q2⟩ => ⟨I2.kIn, ?_⟩) hpl
    rw [hks]
    exact cm_fin (us := []) (vs := []) cf I2 .nil rz rfl l2 q2
  · rw [ev] at w
    exact hkw ro env σ s L _ k rr re (want_args (α := Nat) k w fun us env1 vs s1 t p1 e1 r w1 => ⟨by rw [r.len]; exact hlk, make_core k p1 e1 r w1⟩)
/-! ## a def by its body -/
theorem EnvR.pad : ∀ {Z L h : Hp} {env : Env} {σ : St} (n : Nat), EnvR T Z L h env σ → EnvR T Z L h (env ++ List.replicate n none) (σ ++ List.replicate n none)
  | _, _, _, _, _, 0, .nil => .nil
  | Z, L, h, _, _, n + 1, .nil => by
    rw [List.replicate_succ, List.replicate_succ, List.nil_append, List.nil_append]
    exact .non (EnvR.pad (env := []) (σ := []) n .nil)
  | _, _, _, _, _, n, .non e => .non (e.pad n)
  | _, _, _, _, _, n, .som r e a b d => .som r (e.pad n) a b d
theorem EnvR.cut : ∀ {Z L h : Hp} {env : Env} {σ : St} (n : Nat), EnvR T Z L h env σ → EnvR T Z L h (env.take n) (σ.take n)
  | _, _, _, _, _, 0, e => by rw [List.take_zero, List.take_zero]; exact .nil
  | _, _, _, _, _, _ + 1, .nil => .nil
  | _, _, _, _, _, n + 1, .non e => .non (e.cut n)
  | _, _, _, _, _, n + 1, .som r e a b d => .som r (e.cut n) a b d
theorem keepB_len : ∀ {md : List Md} {env : Env}, md.length ≤ env.length → (keepB md env).length = md.length
  | [], _, _ => rfl
  | .bor :: m, [], h => by simp at h
  | .lent :: m, [], h => by simp at h
  | .own :: m, [], h => by simp at h
  | .bor :: m, _ :: r, h => by simp [keepB, keepB_len (md := m) (env := r) (by simpa using h)]
  | .lent :: m, _ :: r, h => by simp [keepB, keepB_len (md := m) (env := r) (by simpa using h)]
  | .own :: m, _ :: r, h => by simp [keepB, keepB_len (md := m) (env := r) (by simpa using h)]
theorem keepB_at : ∀ {md : List Md} {env : Env} {i n : Nat} {w : W}, (keepB md env)[i]? = some (some w) → env[i]? = some (some w) ∧ i + n ∈ borS n md
  | [], _, _, _, _, h => by simp [keepB] at h
  | m :: md, [], _, _, _, h => by cases m <;> simp [keepB] at h
  | .bor :: m, x :: r, 0, n, w, h => by
    simp only [keepB, List.getElem?_cons_zero] at h
    exact ⟨by simpa using h, by simp [borS]⟩
  | .lent :: m, x :: r, 0, n, w, h => by simp [keepB] at h
  | .own :: m, x :: r, 0, n, w, h => by simp [keepB] at h
  | .bor :: m, x :: r, i + 1, n, w, h => by
    simp only [keepB, List.getElem?_cons_succ] at h
    obtain ⟨a, b⟩ := keepB_at (n := n + 1) h
    refine ⟨by simpa using a, ?_⟩
    rw [borS, show i + 1 + n = i + (n + 1) by omega]
    exact List.mem_cons_of_mem _ b
  | .lent :: m, x :: r, i + 1, n, w, h => by
    simp only [keepB, List.getElem?_cons_succ] at h
    obtain ⟨a, b⟩ := keepB_at (n := n + 1) h
    refine ⟨by simpa using a, ?_⟩
    rw [show i + 1 + n = i + (n + 1) by omega]
    exact b
  | .own :: m, x :: r, i + 1, n, w, h => by
    simp only [keepB, List.getElem?_cons_succ] at h
    obtain ⟨a, b⟩ := keepB_at (n := n + 1) h
    refine ⟨by simpa using a, ?_⟩
    rw [show i + 1 + n = i + (n + 1) by omega]
    exact b
theorem borS_lt : ∀ {md : List Md} {n i : Nat}, i ∈ borS n md → i < n + md.length
  | [], _, _, h => by simp [borS] at h
  | .bor :: m, n, i, h => by
    rw [borS] at h
    rcases List.mem_cons.mp h with rfl | h
    · simp
    · have := borS_lt h; simp; omega
  | .lent :: m, n, i, h => by
    have h : i ∈ borS (n + 1) m := h
    have := borS_lt h; simp; omega
  | .own :: m, n, i, h => by
    have h : i ∈ borS (n + 1) m := h
    have := borS_lt h; simp; omega
theorem keepB_ok {h : Hp} {md : List Md} {env : Env} {σ' : St} {vs : List V} {n : Nat} (e : EnvR T Z emp h env σ') (kp : Kp (borS 0 md) (vs.map some ++ List.replicate n none) σ') (hl : vs.length = md.length) : EnvR T Z emp h (keepB md env) (vs.map some) := by
  have l0 := e.len
  have l1 := kp.len
  simp only [List.length_append, List.length_map, List.length_replicate] at l1
  have l2 : md.length ≤ env.length := by omega
  have q := e.cut md.length
  refine (q.thin (env' := keepB md env) (by rw [keepB_len l2, List.length_take]; omega) fun i w hi => ?_).loose (by rw [List.length_map, List.length_take]; omega) fun i ⟨w, hi⟩ => ?_
  · have := (keepB_at (n := 0) hi).1
    have lt := borS_lt (keepB_at (n := 0) hi).2
    rw [List.getElem?_take_of_lt (by omega)]
    exact this
  · have mem := (keepB_at (n := 0) hi).2
    have lt := borS_lt mem
    rw [List.getElem?_take_of_lt (by omega)]
    have := kp.at_ i mem
    rw [this, List.getElem?_append_left (by simp; omega)]
theorem fnG_of {P : Program} {w : World} {K : PySem.W.Frag} {mg : Str → Option Value} {base : Heap} {x qual : Str} {st0 : Stmt} {f : Addr} {fd : FuncData} {N ps : List Str} {md : List Md} {body : List IS} (F : Fun K x qual st0 f fd) (S : FnScope N ps (defScope st0)) (hmd : md.length = ps.length)
    (hbody : ∀ (cdv : Value) (A : Around) (fr : List PySem.Env) (st : Shared) (H : Hp) (E : XK), Room k (A.deeper (envOfC qual (defScope st0) st.heap.objs.size f cdv)) → A.guards = some [] →
      SSs (cxOf CT P w K mg base N qual (defScope st0) f cdv A fr st H E) T E (defBody st0) (fSs ρ body)) : FnG P w K mg base CT (k + 1) f fd ps (spF T ⟨md, runDef ρ md N.length body⟩) := by
  obtain ⟨oc, od, kV, doc, pm, an, cdv, ct, osl, rfl, lk, hcd⟩ := F.ex
  refine ⟨fun vs H Q E hs => ?_, fun A fr st H args us vs Q E hr ga e0 hb r hs => ?_⟩
  · obtain ⟨_, _, _, _, _, _, hl, _⟩ := hs
    rw [hl]; exact hmd
  obtain ⟨ws, s, L, rfl, ks, hlw, hlv, er, eo, hw⟩ := hs
  have kX : K.In st.heap := e0.mod.kin.keeps fun b o z => (e0.bs b o z).1
  have nl : st.heap.NoLimit := e0.mod.nolimit.keeps fun b o z => (e0.bs b o z).1
  have kinds : ∀ y ∈ ps.zip us, (defScope st0).names.lookup y.1 = some .local ∨ ((defScope st0).names.lookup y.1 = some .cell ∧ ((cellsFrom (st.heap.objs.size + 1) (defScope st0).names []).lookup y.1).isSome = true) := fun ⟨n, v⟩ hy =>
    (S.par n (List.of_mem_zip hy).1).imp id fun q => ⟨q, PySem.W.cellsFrom_some _ _ _ (.inl q)⟩
  refine codeAny_call_function hr.depth (kX _ _ lk) rfl S.co S.gen rfl (PySem.W.codeRec_of kX hcd) (hb _ _ _ _ ?_)
  refine wpAny_newFunctionEnv_cells S.kind kinds fun env he st1 hc => ?_
  subst he
  refine ⟨nl.keeps hc.toInCall.keep, codeAny_func ?_⟩
  obtain ⟨t, ht, hq⟩ := hbody cdv A fr st s.H E (hr.deeper _) ga
  have hvl : vs.length = ps.length := by rw [hlv]; exact hmd
  have I : Inv (cxOf CT P w K mg base N qual (defScope st0) f cdv A fr st s.H E) [] (start N vs) s.H st1 := inv_start S hr.hd e0 hvl r hc
  have hvl' : vs.length = md.length := hlv
  have rd : t { nx := fun _ H' => Q .non H', rt := Q } (start N vs) s.H := by
    have er' := er.pad (N.length - vs.length)
    have eo' := eo.pad (N.length - vs.length)
    refine hq (borS 0 md) _ _ _ s L _ ks er' eo' ?_
    simp only [runDef] at hw
    rw [← hvl'] at hw
    simp only [fSs]
    cases q : evSs ρ (borS 0 md) body (roOf md ws ++ List.replicate (N.length - vs.length) none) (envOf md ws ++ List.replicate (N.length - vs.length) none) with
    | bad => rw [q] at hw; exact hw
    | bk _ _ => rw [q] at hw; exact hw.elim
    | ct _ _ => rw [q] at hw; exact hw.elim
    | nx ro2 env2 =>
      rw [q] at hw
      exact fun σ' s' p _ e2 kp => hw .non s' emp p (keepB_ok e2 kp hvl') .non
    | rt y env2 =>
      rw [q] at hw
      exact fun v σ' s' t p e2 kp rv => hw v s' t p (keepB_ok e2 kp hvl') rv
    | ex c y env2 =>
      rw [q] at hw
      exact fun cls d σ' s' p e2 kp rv => hw cls d s' p (keepB_ok e2 kp hvl') rv
  refine wpAny_mono (ht.run [] st1 (start N vs) s.H _ I rd) (fun fl st' hz => ?_) fun e st' hz => hz
  have fin : ∀ {σ' : St} {H' : Hp} {v : V} {u : Value}, Inv (cxOf CT P w K mg base N qual (defScope st0) f cdv A fr st s.H E) [] σ' H' st' → RelV v u → Q v H' → CE fr P w s.H st Q u st' :=
    fun {σ' H' v u} J rv q => ⟨v, H', J.os, J.bare, J.base, J.hok, rv, q⟩
  match fl, hz with
  | .ret u, hz =>
    obtain ⟨v, σ', H', J, rv, q⟩ := hz
    exact fin J rv q
  | .next, hz =>
    obtain ⟨σ', H', J, q⟩ := hz
    exact fin (v := V.non) (u := Value.none) J rfl q
  | .brk, hz =>
    obtain ⟨_, _, _, q⟩ := hz
    exact q.elim
  | .cont, hz =>
    obtain ⟨_, _, _, q⟩ := hz
    exact q.elim
end
end VL
set_option Elab.async false
set_option linter.all false
set_option maxRecDepth 100000
set_option maxHeartbeats 1000000
namespace VL
open PySem L2
open PyProof.Rows (envOfC AllBare IntsAre)
/-! ## the law called -/
section
variable {P : Program} {w : World} {K : PySem.W.Frag} {mg mb : Str → Option Value} {CT : CXT} {k : Nat} {fa a : Addr} {fd : FuncData} {x : Str} {sp : Sp} {s1 : Shared} {vs : List Value} {ns : List Int}
abbrev LawEnds (s1 : Shared) (r : Result) (s2 : Shared) : Prop := r = .ok (.ret (.bool true)) ∧ OldK s1.heap s2.heap ∧ s2.os = s1.os ∧ AllBare s2.gens
/-- over an abstract heap that tells of the script alone -/
theorem law_over (KX : K.In s1.heap) (hns : s1.heap.Ns mainGlobals mg) (hb : s1.heap.Ns builtinsNs mb) (hbb : ∀ y : Str, y ≠ "__name__" → mb y = bootBuiltins y) (hlim : s1.heap.NoLimit) (hg : s1.gens = #[])
    (ha : s1.heap.get? a = some { cls := .type "list", data := .seq vs.toArray }) (hr : Room k callerA) (F : ∀ base : Heap, K.In base → base.Ns mainGlobals mg → FnG P w K mg base CT k fa fd [x] sp) (hbind : ∀ (st : Shared) (u : Value), BindsTo st fd ⟨[u], []⟩ [(x, u)])
    (hCX : ∀ H e s2, CT [] H s1 (fun _ _ _ => False) e s2 → False) (H : Hp) (only : Only H) (hsp : sp [.ref a] H (fun v _ => v = .bl true) fun _ _ _ => False) (hok : HOk P w H s1.heap) (one : ∀ b, H b ≠ none → b = a) (away : H a ≠ none → K.lookup a = none) :
    codeAny (model P w) callerA (.call (.ref fa) ⟨[.ref a], []⟩) (LawEnds s1) s1 := by
  have away' : ∀ {b : Addr} {o : Obj}, K.lookup b = some o → H b = none := fun {b o} e => Classical.byContradiction fun n => by
    have z := one b n
    subst z
    rw [away n] at e; cases e
  have nodict : ∀ {b : Addr} {o : Obj} {es : Array DictEntry} {ep : Nat}, s1.heap.get? b = some o → o.data = .dict es ep → H b = none := fun {b o es ep} e d => Classical.byContradiction fun n => by
    have z := one b n
    subst z
    rw [ha] at e; cases e
    cases (show Data.seq vs.toArray _ = Data.dict es ep from d)
  have nsK : ∀ {b : Addr} {m : Str → Option Value}, s1.heap.Ns b m → (hidT s1.heap H).Ns b m := fun {b m} ⟨o, es, ep, e, d, r⟩ => ⟨o, es, ep, hidT_get e (nodict e d), d, r⟩
  have kIn : K.In (hidT s1.heap H) := fun b o e => hidT_get (KX b o e) (away' e)
  obtain ⟨mc, l1, l2⟩ := hlim
  have hM : Mod K mg (hidT s1.heap H) := ⟨kIn, nsK hns, ⟨mb, nsK hb, hbb⟩, ⟨mc, nsK l1, l2⟩⟩
  have e0 : Env0 P w K mg (hidT s1.heap H) callerA [] s1 H := ⟨rfl, hM, fun b o e => of_hidT e, Nat.le_of_eq (hidT_size _ _), trivial, fun b z => absurd (show b ∈ ([] : List Addr) from z) (by simp), hok, .of_eq hg⟩
  refine codeAny_mono ((F _ kIn (nsK hns)).go callerA [] s1 H ⟨[.ref a], []⟩ [.ref a] [.ref a] _ _ hr rfl e0 (hbind s1 (.ref a)) (.cons rfl .nil) hsp) fun r s2 h => ?_
  match r, h with
  | .error e, h => exact (hCX H e s2 h).elim
  | .ok (.ret u), h =>
    obtain ⟨v, H2, os, bare, un, hok2, rv, q⟩ := h
    cases (show v = .bl true from q)
    cases (show u = Value.bool true from rv)
    refine ⟨rfl, OldK.of_keep fun b o e => ?_, os, bare⟩
    cases q : H b with
    | none => exact un.keep b o e q (fun z => absurd (show b ∈ ([] : List Addr) from z) (by simp)) (by simp)
    | some u =>
      rcases only b with z | ⟨ob, ys, z⟩
      · rw [q] at z; cases z
      · obtain ⟨g1, _⟩ := hok b _ z
        obtain ⟨g2, _⟩ := hok2 b _ (un.frzs b ob _ z)
        rw [e] at g1; cases g1
        exact g2
def isLst (o : Obj) : Bool := match o.cls with
  | .type n => n == "list"
  | _ => false
/-- no list among what is written out of the top -/
def noList (K : PySem.W.Frag) : Bool := K.all fun p => !isLst p.2
theorem lookup_mem : ∀ {K : PySem.W.Frag} {a : Addr} {o : Obj}, K.lookup a = some o → (a, o) ∈ K
  | [], _, _, h => by simp at h
  | (b, x) :: K, a, o, h => by
    rw [List.lookup_cons] at h
    cases q : (a == b) with
    | true => rw [q] at h; cases h; cases beq_iff_eq.mp q; exact List.mem_cons_self ..
    | false => rw [q] at h; exact List.mem_cons_of_mem _ (lookup_mem h)
theorem law_callG (nol : noList K = true) (KX : K.In s1.heap) (hns : s1.heap.Ns mainGlobals mg) (hb : s1.heap.Ns builtinsNs mb) (hbb : ∀ y : Str, y ≠ "__name__" → mb y = bootBuiltins y) (hlim : s1.heap.NoLimit) (hg : s1.gens = #[])
    (ha : s1.heap.get? a = some { cls := .type "list", data := .seq vs.toArray }) (hi : IntsAre vs ns) (hl : ns.length ≤ sizeLine) (hr : Room k callerA) (F : ∀ base : Heap, K.In base → base.Ns mainGlobals mg → FnG P w K mg base CT k fa fd [x] sp) (hbind : ∀ (st : Shared) (u : Value), BindsTo st fd ⟨[u], []⟩ [(x, u)])
    (hCX : ∀ H e s2, CT [] H s1 (fun _ _ _ => False) e s2 → False) (hsp : ∀ H : Hp, Only H → Rd H a (.lst (ns.map V.int)) → sp [.ref a] H (fun v _ => v = .bl true) fun _ _ _ => False) :
    codeAny (model P w) callerA (.call (.ref fa) ⟨[.ref a], []⟩) (LawEnds s1) s1 := by
  have go := law_over KX hns hb hbb hlim hg ha hr F hbind hCX
  have rv := vals_ints hi
  have hlen := hi.length
  cases hk : K.lookup a with
  | some o =>
    have e := KX a o hk
    rw [ha] at e
    cases e
    have := List.all_eq_true.mp nol _ (lookup_mem hk)
    exact absurd this (by simp [isLst])
  | none =>
    let U : HO := .frz { cls := .type "list", data := .seq vs.toArray } (.lst (ns.map V.int))
    have at1 : one a U a = some U := one_at
    have hO : Only (one a U) := fun b => by
      by_cases z : b = a
      · subst z; exact .inr ⟨_, _, at1⟩
      · exact .inl (one_ne z)
    refine go (one a U) hO (hsp _ hO (.inr ⟨_, at1⟩)) (fun b u z => ?_) (fun b z => ?_) fun _ => hk
    · obtain ⟨rfl, rfl⟩ := one_some z
      exact ⟨ha, by rw [List.length_map]; exact hl, vs, _, rv, ha⟩
    · exact Classical.byContradiction fun n => z (one_ne n)
end
theorem walkG {l : PySem.W.OpenLaw} {n k : Nat} {q : Program} {loose : List Str} {XP : (Str → Option Value) → Heap → Prop} {YP : World → Heap → Prop} {d : PySem.DefRec} {K : Params → PySem.W.Frag} {CT : World → CXT} {sp : World → Sp} {x : Str}
    (hn : l.most = some n) (hn2 : n ≤ sizeLine) (hdf : d.params.defaults = []) (hr : Room k callerA) (hK : ∀ w : World, noList (K w.params) = true) (hY : ∀ (w : World) (h : Heap), YP w h → (K w.params).In h)
    (F : ∀ (w : World) (mg : Str → Option Value) (fa : Addr) (h : Heap), (K w.params).In h → h.Ns mainGlobals mg → mg d.name = some (.ref fa) →
      ∃ fd : FuncData, (∀ (st : Shared) (u : Value), BindsTo st fd ⟨[u], []⟩ [(x, u)]) ∧ ∀ base : Heap, (K w.params).In base → base.Ns mainGlobals mg → FnG l.prog w (K w.params) mg base (CT w) k fa fd [x] (sp w))
    (hsp : ∀ (w : World) (H : Hp) (a : Addr) (ns : List Int), ns.length ≤ n → Only H → Rd H a (.lst (ns.map V.int)) → sp w [.ref a] H (fun v _ => v = .bl true) fun _ _ _ => False)
    (hCX : ∀ (w : World) (H : Hp) (st : Shared) (e : Value) (s2 : Shared), CT w [] H st (fun _ _ _ => False) e s2 → False) : PySem.W.WalkO q loose XP YP l.row.toRowW d [] (fun f vs => PySem.call f vs) := by
  refine Att.attach_call hn hdf fun w s0 s1 mg mb fa o pm cd doc a vs ns G Y _ _ _ hmg hobj hints hlen hg => ?_
  have KX := hY w _ Y
  obtain ⟨fd, hb, hF⟩ := F w mg fa _ KX G.T.g hmg
  exact law_callG (hK w) KX G.T.g G.T.b G.T.builtins G.T.nolimit hg hobj hints (Nat.le_trans hlen hn2) hr hF hb (fun H e s2 => hCX w H s1 e s2) fun H => hsp w H a ns hlen
end VL
set_option Elab.async false
set_option linter.all false
set_option maxRecDepth 100000
set_option maxHeartbeats 4000000
namespace VL
open PySem L2
/-! ## does the small language say what the text says? -/
inductive FI where
  | fn (x : Str) (n : Nat) (ks : List Str)
  | gv (x : Str)
  | mt (c mi n : Nat)
  | mk (c : Nat) (x : Str) (n : Nat) (ks : List Str)
structure MC where
  N : List Str
  sc : Scope
  nm : List Str
  nF : Nat
  fns : List FI
  blt : List Str
  cel : Option Scope
def isStar : Expr → Bool | .Starred _ _ => true | _ => false
def unst : Expr → Expr | .Starred x _ => x | e => e
def isSup : Expr → Bool | .Call (.Name _ _) [] [] _ => true | _ => false
def plainB : Expr → Bool | .Slice _ _ _ _ => false | _ => true
def isSetE : Expr → Bool | .Set _ _ _ => true | _ => false
def compE : Expr → Bool | .ListComp _ _ _ _ => true | .SetComp _ _ _ _ => true | .DictComp _ _ _ _ _ => true | _ => false
def lookB (sc : Scope) (x : Str) (k : NameKind) : Bool := sc.names.lookup x == some k
def visB (sc : Scope) (x : Str) : Bool := lookB sc x .local || lookB sc x .cell || lookB sc x .free
def glB (M : MC) (x : Str) : Bool := lookB M.sc x .globalImplicit && !(x == ("__debug__" : Str))
def bltB (M : MC) (x : Str) : Bool := lookB M.sc x .globalImplicit && M.blt.contains x
def slotB (M : MC) (i : Nat) (x : Str) : Bool := M.N[i]? == some x && visB M.sc x && !(x == ("__debug__" : Str)) && !(x == ("__classdict__" : Str))
def relabB (sc scope : Scope) : Scope := { scope with names := scope.names.map fun (n, k) => if (k == .free && sc.kind == .function && sc.names.lookup n == some .cell) then (n, .cell) else (n, k) }
def MC.inner (M : MC) (scope : Scope) : MC := { M with sc := relabB M.sc scope, cel := some scope }
def cellB (M : MC) (x : Str) : Bool := match M.cel with
  | none => true
  | some s => lookB s x .cell
def ownP (M : MC) (own : List Nat) : List (Str × Nat) := own.map fun i => (M.N.getD i default, i)
def nmB (M : MC) (f : Nat) (x : Str) : Bool := M.nm[f]? == some x
def fldB (M : MC) (f : Nat) (x : Str) : Bool := nmB M f x && decide (f < M.nF)
def BinO.opr : BinO → Operator
  | .add => .Add | .sub => .Sub | .mul => .Mult | .fdiv => .FloorDiv | .mod => .Mod | .pow => .Pow | .shl => .LShift | .shr => .RShift | .band => .BitAnd
def litB : W → Expr → Bool
  | .int i, .Constant (.int j) _ _ => i == j
  | .bl i, .Constant (.bool j) _ _ => i == j
  | .non, .Constant .none _ _ => true
  | .str i, .Constant (.str j) _ _ => i == j
  | _, _ => false
def keyB : Expr → Str → Bool
  | .Constant (.str y) _ _, x => y == x
  | _, _ => false
def pathB (M : MC) : Nat → List Ps → Expr → Bool
  | i, fs, .Name x _ => fs.isEmpty && slotB M i x
  | i, fs, .Attribute o n _ => match fs.getLast? with
    | some (.f f) => fldB M f n && !isSup o && pathB M i fs.dropLast o
    | _ => false
  | i, fs, .Subscript o y _ => match fs.getLast? with
    | some (.k x) => keyB y x && pathB M i fs.dropLast o
    | _ => false
  | _, _, _ => false
def mutB : Mut → Str → Bool
  | .append, x => x == ("append" : Str)
  | .extend, x => x == ("extend" : Str)
  | .pop, x => x == ("pop" : Str)
  | .update, x => x == ("update" : Str)
  | _, _ => false
mutual
def okG (M : MC) : Tg → Expr → Bool
  | .name i, .Name x _ => M.N[i]? == some x && (lookB M.sc x .local || (cellB M x && lookB M.sc x .cell))
  | .tup ts, .Tuple es _ _ => okGs M ts es
  | .fld i fs f, .Attribute o n _ => fldB M f n && pathB M i fs o
  | _, _ => false
def okGs (M : MC) : List Tg → List Expr → Bool
  | [], [] => true
  | t :: ts, e :: es => okG M t e && !isStar e && okGs M ts es
  | _, _ => false
end
def nameB (M : MC) (i : Nat) : Expr → Bool
  | .Name x _ => slotB M i x
  | _ => false
/-- a slot handed over for a while -/
def borB (M : MC) (a : IE) (e : Expr) : Bool := match a with
  | .bor i => nameB M i e
  | _ => false
def cmp1B (o : CmpO) : List CmpOp → List Expr → Bool
  | [op], [r] => op == o.op && !isSetE r
  | _, _ => false
def cmp2B (o p : CmpO) : List CmpOp → List Expr → Bool
  | [op1, op2], [_, r] => op1 == o.op && op2 == p.op && !isSetE r
  | _, _ => false
def fnameB (f : Expr) (x : Str) : Bool := match f with
  | .Name y _ => y == x
  | _ => false
def isinB (M : MC) (t : Ty) (f : Expr) : List Expr → List Keyword → Bool
  | [e, y], [] => fnameB f "isinstance" && bltB M "isinstance" && fnameB y t.name && bltB M t.name && !isStar e
  | _, _ => false
def it1B (M : MC) (x : Str) (f : Expr) : List Expr → List Keyword → Bool
  | [e], [] => fnameB f x && bltB M x && !isStar e
  | _, _ => false
def it2B (M : MC) (x : Str) (f : Expr) : List Expr → List Keyword → Bool
  | [e, d], [] => fnameB f x && bltB M x && !isStar e && !isStar d
  | _, _ => false
def lrg1B (M : MC) (tp : Bool) (f : Expr) : List Expr → List Keyword → Bool
  | [_], [] => fnameB f (if tp then "tuple" else "list") && bltB M (if tp then "tuple" else "list")
  | _, _ => false
def lrg2B (M : MC) (g : Expr) (ks : List Keyword) (n : Nat) (one : Bool) : Bool := fnameB g "range" && bltB M "range" && ks.isEmpty && (if one then n == 1 else n == 2)
def isTupE : Expr → Bool | .Tuple _ _ _ => true | _ => false
def fnB (M : MC) (f : Nat) (x : Str) (es : List Expr) (kws : List Keyword) : Bool := match M.fns[f]? with
  | some (.fn y n ks) => x == y && es.length == n && kws.map (·.arg) == ks.map some
  | _ => false
def mkB (M : MC) (f c : Nat) (x : Str) (es : List Expr) (kws : List Keyword) : Bool := match M.fns[f]? with
  | some (.mk c' y n ks) => c == c' && x == y && es.length == n && kws.map (·.arg) == ks.map some
  | _ => false
def mtB (M : MC) (f c mi k : Nat) : Bool := match M.fns[f]? with
  | some (.mt c' mi' n) => c == c' && mi == mi' && k == n
  | _ => false
def gvB (M : MC) (f : Nat) (x : Str) : Bool := match M.fns[f]? with
  | some (.gv y) => x == y
  | _ => false
def isCmpI : IE → Bool | .cmp _ _ _ => true | .chain _ _ _ _ _ => true | _ => false
/-- a value as a test -/
def valB (a : IE) : Expr → Bool
  | .UnaryOp op _ _ => !(op == .Not)
  | .BoolOp _ _ _ => false
  | .IfExp _ _ _ _ => false
  | .Compare _ _ _ _ => isCmpI a
  | _ => true
mutual
def okE (M : MC) : IE → Expr → Bool
  | .lit w, e => litB w e
  | .var i, e => nameB M i e
  | .frz i, e => nameB M i e
  | .mov i, e => nameB M i e
  | .bor _, _ => false
  | .lend _ a, e => okE M a e
  | .bin o a b, e => match e with
    | .BinOp l op r _ => op == o.opr && okE M a l && okE M b r
    | _ => false
  | .neg a, e => match e with
    | .UnaryOp op x _ => op == .USub && okE M a x
    | _ => false
  | .cmp o a b, e => match e with
    | .Compare l ops rs _ => cmp1B o ops rs && okE M a l && okE M b (rs.headD default)
    | _ => false
  | .chain o p a b d, e => match e with
    | .Compare l ops rs _ => cmp2B o p ops rs && okE M a l && okE M b (rs.headD default) && okE M d (rs.tail.headD default)
    | _ => false
  | .tup as, e => match e with
    | .Tuple es _ _ => okEs M as es
    | _ => false
  | .lst as, e => match e with
    | .List es _ => okEs M as es
    | _ => false
  | .ands as, e => match e with
    | .BoolOp op es _ => op == .And && okAll M as es && !es.isEmpty
    | _ => false
  | .ors as, e => match e with
    | .BoolOp op es _ => op == .Or && okAll M as es && !es.isEmpty
    | _ => false
  | .dnot a, e => match e with
    | .UnaryOp op x _ => op == .Not && okE M a x
    | _ => false
  | .ite t a b, e => match e with
    | .IfExp c x y _ => okT M t c && okE M a x && okE M b y
    | _ => false
  | .blt b as, e => match e with
    | .Call f es kws _ => fnameB f b.name && bltB M b.name && kws.isEmpty && !es.isEmpty && okEs M as es
    | _ => false
  | .isin a t, e => match e with
    | .Call f es kws _ => isinB M t f es kws && okE M a (es.headD default)
    | _ => false
  | .lrg tp lo hi, e => match e with
    | .Call f es kws _ => lrg1B M tp f es kws && (match es.headD default with
      | .Call g ds ks _ => lrg2B M g ks ds.length lo.isNone && okLr M lo ds && okE M hi (ds.getLastD default) && ds.all (fun e => !isStar e)
      | _ => false)
    | _ => false
  | .idx a b, e => match e with
    | .Subscript x y _ => plainB y && okE M a x && okE M b y
    | _ => false
  | .slc a lo hi, e => match e with
    | .Subscript x y _ => match y with
      | .Slice l h st _ => st.isNone && okE M a x && okO M lo l && okO M hi h
      | _ => false
    | _ => false
  | .fld a f, e => match e with
    | .Attribute x n _ => fldB M f n && !isSup x && okE M a x
    | _ => false
  | .call f as, e => match e with
    | .Call g es kws _ => match g with
      | .Name x _ => glB M x && fnB M f x es kws && okA M as es kws
      | _ => false
    | .Name x _ => as.isEmpty && glB M x && gvB M f x
    | _ => false
  | .meth c mi f r as, e => match e with
    | .Call g es kws p => match g with
      | .Attribute o m ap => kws.isEmpty && nmB M mi m && !isSup o && mtB M f c mi es.length && ap.endLine == p.line && decide (es.length < 25) && (borB M r o || okE M r o) && okA M as es []
      | _ => false
    | _ => false
  | .make c f as, e => match e with
    | .Call g es kws _ => match g with
      | .Name x _ => glB M x && mkB M f c x es kws && okA M as es kws
      | _ => false
    | _ => false
  | .comp own it tg is d, e => match e with
    | .ListComp elt gens scope _ => match gens with
      | [⟨t, iter, ifs, asy⟩] => asy == 0 && blkC M.N M.sc scope (ownP M own) && tg.names.all own.contains && !isSetE iter && okI M it t iter && okG (M.inner scope) tg t && okC (M.inner scope) is ifs && okE (M.inner scope) d elt
      | _ => false
    | _ => false
  | .mut i fs m as, e => match e with
    | .Call g es kws p => match g with
      | .Attribute o n ap => kws.isEmpty && mutB m n && pathB M i fs o && !isSup o && ap.endLine == p.line && decide (es.length < 25) && okEs M as es
      | _ => false
    | _ => false
  | .dct0, e => match e with
    | .Dict ks vs _ => ks.isEmpty && vs.isEmpty
    | _ => false
  | .disp tp st as, e => match e with
    | .Tuple es _ _ => tp && okD M st as es
    | .List es _ => !tp && okD M st as es
    | _ => false
  | .mtd m r as, e => match e with
    | .Call g es kws p => match g with
      | .Attribute o n ap => kws.isEmpty && n == m.name && !isSup o && okE M r o && ap.endLine == p.line && decide (es.length < 25) && !es.isEmpty && okEs M as es
      | _ => false
    | _ => false
  | .dcomp own it tg is k d, e => match e with
    | .DictComp kx vx gens scope _ => match gens with
      | [⟨t, iter, ifs, asy⟩] => asy == 0 && blkC M.N M.sc scope (ownP M own) && tg.names.all own.contains && !isSetE iter && okI M it t iter && okG (M.inner scope) tg t && okC (M.inner scope) is ifs && okE (M.inner scope) k kx && okE (M.inner scope) d vx
      | _ => false
    | _ => false
def okD (M : MC) : List Bool → List IE → List Expr → Bool
  | [], [], es => es.isEmpty
  | b :: st, a :: as, es => match es with
    | e :: es => isStar e == b && okE M a (unst e) && okD M st as es
    | [] => false
  | _, _, _ => false
def okLr (M : MC) : Option IE → List Expr → Bool
  | none, _ => true
  | some a, ds => okE M a (ds.headD default)
def okEs (M : MC) : List IE → List Expr → Bool
  | [], es => es.isEmpty
  | a :: as, es => match es with
    | e :: es => okE M a e && !isStar e && okEs M as es
    | [] => false
def okAll (M : MC) : List IE → List Expr → Bool
  | [], es => es.isEmpty
  | a :: as, es => match es with
    | e :: es => okE M a e && okAll M as es
    | [] => false
def okA (M : MC) : List IE → List Expr → List Keyword → Bool
  | [], es, kws => es.isEmpty && kws.isEmpty
  | a :: as, es, kws => match es with
    | e :: es => (borB M a e || okE M a e) && !isStar e && okA M as es kws
    | [] => match kws with
      | kw :: kws => (borB M a kw.value || okE M a kw.value) && okA M as [] kws
      | [] => false
def okO (M : MC) : Option IE → Option Expr → Bool
  | none, e => e.isNone
  | some a, e => match e with
    | some e => okE M a e
    | none => false
def okT (M : MC) : IT → Expr → Bool
  | .ands ts, e => match e with
    | .BoolOp op es _ => op == .And && okTs M ts es && !es.isEmpty
    | _ => false
  | .ors ts, e => match e with
    | .BoolOp op es _ => op == .Or && okTs M ts es && !es.isEmpty
    | _ => false
  | .dnot t, e => match e with
    | .UnaryOp op x _ => op == .Not && okT M t x
    | _ => false
  | .lend _ t, e => okT M t e
  | .val a, e => valB a e && okE M a e
def okTs (M : MC) : List IT → List Expr → Bool
  | [], es => es.isEmpty
  | t :: ts, es => match es with
    | e :: es => okT M t e && okTs M ts es
    | [] => false
def okC (M : MC) : List IT → List Expr → Bool
  | [], es => es.isEmpty
  | t :: ts, es => match es with
    | e :: es => ts.isEmpty && es.isEmpty && okT M t e
    | [] => false
def okI (M : MC) : It → Expr → Expr → Bool
  | .val a, _, e => okE M a e
  | .rng1 a, _, e => match e with
    | .Call f es kws _ => it1B M "range" f es kws && okE M a (es.headD default)
    | _ => false
  | .rng2 a b, _, e => match e with
    | .Call f es kws _ => it2B M "range" f es kws && okE M a (es.headD default) && okE M b (es.tail.headD default)
    | _ => false
  | .enum a, tg, e => match e with
    | .Call f es kws _ => isTupE tg && it1B M "enumerate" f es kws && okE M a (es.headD default)
    | _ => false
  | .zip a b, tg, e => match e with
    | .Call f es kws _ => isTupE tg && it2B M "zip" f es kws && okE M a (es.headD default) && okE M b (es.tail.headD default)
    | _ => false
end
end VL
set_option Elab.async false
set_option linter.all false
set_option maxRecDepth 100000
set_option maxHeartbeats 4000000
namespace VL
open PySem L2
/-! ## what the checker's word is worth -/
def FOk (X : Cx) (T : Tb) (E : XK) (F : Fn) : FI → Prop
  | .fn x n ks => ∃ fa, X.mg x = some (.ref fa) ∧ PySem.W.keepIn X.K (.ref fa) = true ∧ CF X T E F (.ref fa) n ks
  | .gv x => ∃ v w u, F = ⟨[], fun _ => .ok w []⟩ ∧ X.mg x = some u ∧ RelV v u ∧ ∀ Z L g, Rep T Z L g w v
  | .mt c mi n => ∃ fa, Cls X.K (T.cl c) ∧ Meth X.K (T.cl c) (T.nm mi) fa ∧ CF X T E F (.ref fa) (n + 1) []
  | .mk c x n ks => X.mg x = some (.ref (T.cl c)) ∧ PySem.W.keepIn X.K (.ref (T.cl c)) = true ∧ CMk X T E F c n ks
structure MOk (X : Cx) (T : Tb) (E : XK) (ρ : Nat → Fn) (M : MC) : Prop where
  c : Ctx X T
  N : X.N = M.N
  sc : X.env.scope = M.sc
  fq : ∀ x, cellB M x = true → X.fn x = true
  nm : ∀ i x, M.nm[i]? = some x → T.nm i = x
  nF : T.nF = M.nF
  fns : ∀ f fi, M.fns[f]? = some fi → FOk X T E (ρ f) fi
  inn : ∀ (s : Shared) (H : Hp) (sc : Scope) (ce : PySem.Env) (fp : List Addr) f fi, M.fns[f]? = some fi → FOk (X.blk s H sc ce fp) T X0 (ρ f) fi
  blt : ∀ x, M.blt.contains x = true → X.mg x = none
section
variable {X : Cx} {T : Tb} {E : XK} {ρ : Nat → Fn} {M : MC} {e a b : Expr} {pos p : Pos}
theorem lookB_ok {sc : Scope} {x : Str} {k : NameKind} (h : lookB sc x k = true) : sc.names.lookup x = some k := by
  unfold lookB at h
  exact beq_iff_eq.mp h
theorem MOk.gl (m : MOk X T E ρ M) {x : Str} (h : lookB M.sc x .globalImplicit = true) : Gl X x := by
  show X.env.scope.names.lookup x = _
  rw [m.sc]; exact lookB_ok h
theorem MOk.glb (m : MOk X T E ρ M) {x : Str} (h : glB M x = true) : Gl X x ∧ (x == ("__debug__" : Str)) = false := by
  unfold glB at h
  simp only [Bool.and_eq_true, Bool.not_eq_true'] at h
  exact ⟨m.gl h.1, h.2⟩
theorem MOk.bltb (m : MOk X T E ρ M) {x : Str} (h : bltB M x = true) : Gl X x ∧ X.mg x = none := by
  unfold bltB at h
  simp only [Bool.and_eq_true] at h
  exact ⟨m.gl h.1, m.blt x h.2⟩
theorem MOk.slot (m : MOk X T E ρ M) {i : Nat} {x : Str} (h : slotB M i x = true) : PE X (.Name x pos) (tVar i) := by
  unfold slotB visB at h
  simp only [Bool.and_eq_true, Bool.or_eq_true, Bool.not_eq_true'] at h
  obtain ⟨⟨⟨h1, h2⟩, h3⟩, h4⟩ := h
  refine pe_var (by rw [m.N]; exact beq_iff_eq.mp h1) ?_ h3 h4
  unfold Vis
  rw [m.sc]
  rcases h2 with (h2 | h2) | h2
  · exact .inl (lookB_ok h2)
  · exact .inr (.inl (lookB_ok h2))
  · exact .inr (.inr (lookB_ok h2))
theorem MOk.fld (m : MOk X T E ρ M) {f : Nat} {x : Str} (h : fldB M f x = true) : T.nm f = x ∧ f < T.nF := by
  unfold fldB nmB at h
  simp only [Bool.and_eq_true, decide_eq_true_eq] at h
  exact ⟨m.nm _ _ (beq_iff_eq.mp h.1), by rw [m.nF]; exact h.2⟩
theorem sup_ok {e : Expr} {f : Str} {env : PySem.Env} {whole : PySem.Sem Value} (h : isSup e = false) : attributeBase e f env whole = whole := by
  unfold attributeBase
  split
  · cases h
  · rfl
theorem star_ok {e : Expr} {es : List Expr} {env : PySem.Env} (h : isStar e = false) : starEach (e :: es) env = (false, eval e env) :: starEach es env := by
  cases e <;> first | rfl | cases h
theorem asg_ok {e : Expr} {es : List Expr} {env : PySem.Env} (h : isStar e = false) : assignEach (e :: es) env = (false, assign e env) :: assignEach es env := by
  cases e <;> first | rfl | cases h
theorem stars_ok : ∀ {es : List Expr} {env : PySem.Env}, es.all (fun e => !isStar e) = true → (starEach es env).any (·.1) = false
  | [], _, _ => rfl
  | e :: es, env, h => by
    simp only [List.all_cons, Bool.and_eq_true, Bool.not_eq_true'] at h
    rw [star_ok h.1]
    simp [stars_ok (es := es) (env := env) h.2]
theorem backTo_any {pos : Pos} {l : List (Bool × PySem.Sem Value)} : (backTo pos l).any (·.1) = l.any (·.1) := by
  unfold backTo
  rw [List.any_map]
  rfl
theorem plain_ok {b : Expr} (h : plainB b = true) : PlainIx b := fun o i => by
  cases b <;> first | rfl | cases h
theorem marks_ok {op : CmpOp} {e : Expr} (h : isSetE e = false) : behindInMarks op e = false := by
  cases e <;> first | rfl | cases h
theorem fold_ok {e : Expr} {env : PySem.Env} (h : isSetE e = false) (x : Value) : foldedSetIterable e env x = pure x := by
  unfold foldedSetIterable
  split
  · cases h
  · rfl
theorem MOk.path (m : MOk X T E ρ M) : ∀ {e : Expr} {i : Nat} {fs : List Ps}, pathB M i fs e = true → PP X T e i fs
  | .Name x _, i, fs, h => by
    simp only [pathB, Bool.and_eq_true] at h
    have : fs = [] := List.isEmpty_iff.mp h.1
    subst this
    exact pp_var (m.slot h.2)
  | .Attribute o n _, i, fs, h => by
    rw [pathB] at h
    split at h
    · rename_i f hf
      simp only [Bool.and_eq_true, Bool.not_eq_true'] at h
      obtain ⟨⟨h1, h2⟩, h3⟩ := h
      obtain ⟨rfl, hn⟩ := m.fld h1
      have q := pp_fld (pos := ‹Pos›) m.c hn (sup_ok h2) (m.path h3)
      have hl : fs.dropLast ++ [.f f] = fs := by
        obtain ⟨ys, rfl⟩ := List.getLast?_eq_some_iff.mp hf
        rw [List.dropLast_concat]
      rw [hl] at q
      exact q
    · cases h
  | .Subscript o y sp, i, fs, h => by
    rw [pathB] at h
    split at h
    · rename_i x hf
      simp only [Bool.and_eq_true] at h
      have hy : ∃ kk kp, y = .Constant (.str x) kk kp := by
        unfold keyB at h
        have h1 := h.1
        split at h1
        · cases beq_iff_eq.mp h1
          exact ⟨_, _, rfl⟩
        · cases h1
      obtain ⟨kk, kp, rfl⟩ := hy
      have q := pp_key (pos := sp) (kk := kk) (kp := kp) (x := x) m.c (m.path h.2)
      have hl : fs.dropLast ++ [.k x] = fs := by
        obtain ⟨ys, rfl⟩ := List.getLast?_eq_some_iff.mp hf
        rw [List.dropLast_concat]
      rw [hl] at q
      exact q
    · cases h
  | .BoolOp .., _, _, h => by simp [pathB] at h
  | .NamedExpr .., _, _, h => by simp [pathB] at h
  | .BinOp .., _, _, h => by simp [pathB] at h
  | .UnaryOp .., _, _, h => by simp [pathB] at h
  | .Lambda .., _, _, h => by simp [pathB] at h
  | .IfExp .., _, _, h => by simp [pathB] at h
  | .Dict .., _, _, h => by simp [pathB] at h
  | .Set .., _, _, h => by simp [pathB] at h
  | .ListComp .., _, _, h => by simp [pathB] at h
  | .SetComp .., _, _, h => by simp [pathB] at h
  | .DictComp .., _, _, h => by simp [pathB] at h
  | .GeneratorExp .., _, _, h => by simp [pathB] at h
  | .Await .., _, _, h => by simp [pathB] at h
  | .Yield .., _, _, h => by simp [pathB] at h
  | .YieldFrom .., _, _, h => by simp [pathB] at h
  | .Compare .., _, _, h => by simp [pathB] at h
  | .Call .., _, _, h => by simp [pathB] at h
  | .FormattedValue .., _, _, h => by simp [pathB] at h
  | .JoinedStr .., _, _, h => by simp [pathB] at h
  | .Constant .., _, _, h => by simp [pathB] at h
  | .Starred .., _, _, h => by simp [pathB] at h
  | .List .., _, _, h => by simp [pathB] at h
  | .Tuple .., _, _, h => by simp [pathB] at h
  | .Slice .., _, _, h => by simp [pathB] at h
mutual
theorem MOk.okG (m : MOk X T E ρ M) : ∀ (t : Tg) (e : Expr), okG M t e = true → SG X T e t
  | .name i, e, h => by
    cases e <;> simp only [VL.okG, Bool.false_eq_true] at h
    simp only [Bool.and_eq_true] at h
    rename_i x _
    simp only [Bool.or_eq_true, Bool.and_eq_true] at h
    rcases h.2 with h2 | ⟨h2, h3⟩
    · have hl : X.env.scope.names.lookup x = some .local := by rw [m.sc]; exact lookB_ok h2
      exact sg_name (pg_name m.c.nd (by rw [m.N]; exact beq_iff_eq.mp h.1) (.inl hl) (.inr hl))
    · have hl : X.env.scope.names.lookup x = some .cell := by rw [m.sc]; exact lookB_ok h3
      exact sg_name (pg_name m.c.nd (by rw [m.N]; exact beq_iff_eq.mp h.1) (.inr hl) (.inl (m.fq x h2)))
  | .tup ts, e, h => by
    cases e <;> simp only [VL.okG, Bool.false_eq_true] at h
    rename_i es _ _
    obtain ⟨q1, q2, q3⟩ := m.okGs ts es h
    exact sg_tup m.c q1 q2 q3
  | .fld i fs f, e, h => by
    cases e <;> simp only [VL.okG, Bool.false_eq_true] at h
    simp only [Bool.and_eq_true] at h
    obtain ⟨rfl, hn⟩ := m.fld h.1
    exact sg_fld m.c hn (m.path h.2)
theorem MOk.okGs (m : MOk X T E ρ M) : ∀ (ts : List Tg) (es : List Expr), okGs M ts es = true → SGs X T es ts ∧ (assignEach es X.env).length = ts.length ∧ (assignEach es X.env).findIdx? (·.1) = none
  | [], [], h => ⟨sgs_nil, rfl, rfl⟩
  | [], _ :: _, h => by simp [VL.okGs] at h
  | _ :: _, [], h => by simp [VL.okGs] at h
  | t :: ts, e :: es, h => by
    simp only [VL.okGs, Bool.and_eq_true, Bool.not_eq_true'] at h
    obtain ⟨⟨h1, h2⟩, h3⟩ := h
    obtain ⟨q1, q2, q3⟩ := m.okGs ts es h3
    have hs := asg_ok (env := X.env) (es := es) h2
    refine ⟨sgs_cons (m.okG t e h1) q1 (by rw [hs]; rfl), by rw [hs]; simp [q2], ?_⟩
    rw [hs, List.findIdx?_cons]
    simp [q3]
end
end
end VL
set_option Elab.async false
set_option linter.all false
set_option maxRecDepth 100000
set_option maxHeartbeats 8000000
namespace VL
open PySem L2
section
variable {X : Cx} {T : Tb} {E : XK} {ρ : Nat → Fn} {M : MC} {e a b : Expr} {pos p : Pos}
theorem se_bin (c : Ctx X T) (o : BinO) {ia ib : IE} (ha : SE X T E a (ev ρ ia)) (hb : SE X T E b (ev ρ ib)) : SE X T E (.BinOp a o.opr b pos) (ev ρ (.bin o ia ib)) := by
  have key : ∃ r, OpR X (binaryOp o.opr) r ∧ Op2 T r (binF o) := by
    cases o with
    | add => exact ⟨_, op2_add c⟩
    | sub => exact ⟨_, op2_sub⟩
    | mul => exact ⟨_, op2_mul⟩
    | fdiv => exact ⟨_, op2_fdiv⟩
    | mod => exact ⟨_, op2_mod⟩
    | pow => exact ⟨_, op2_pow⟩
    | _ => exact ⟨fun _ _ _ _ => False, fun _ _ _ _ _ _ _ _ _ _ _ _ h => h.elim, fun _ _ _ _ w1 w2 w _ _ _ _ _ _ _ _ h _ => by
        have hn : ∀ o' : BinO, (o' = .shl ∨ o' = .shr ∨ o' = .band) → binF o' w1 w2 = none := fun o' ho => by
          unfold binF
          rcases ho with rfl | rfl | rfl <;> rfl
        rw [hn _ (by simp)] at h
        cases h⟩
  obtain ⟨r, h1, h2⟩ := key
  exact se_op2 (te := fun a _ => a) (fun ta tb pa pb => pe_op h1 pa pb) h2 ha hb
theorem se_cmp (c : Ctx X T) (o : CmpO) {ia ib : IE} (hm : behindInMarks o.op b = false) (ha : SE X T E a (ev ρ ia)) (hb : SE X T E b (ev ρ ib)) : SE X T E (.Compare a [o.op] [b] pos) (ev ρ (.cmp o ia ib)) :=
  se_op2 (te := fun a _ => a) (fun ta tb pa pb => pe_cmpR (op_cmp c o) pa pb hm) (opb_cmp o).op2 ha hb
theorem iff_and {a b : Bool} (h : (a && b) = true) : a = true ∧ b = true := by simpa using h
theorem not_t {a : Bool} (h : (!a) = true) : a = false := by simpa using h
theorem blk_ok {N : List Str} {sc scope : Scope} {own : List (Str × Nat)} (h : blkC N sc scope own = true) : BlkOk N sc scope own := blkOk_by h
theorem relab_eq {scope : Scope} {env : PySem.Env} : relabel scope env = relabB env.scope scope := rfl
theorem MOk.innr (m : MOk X T E ρ M) (s : Shared) (H : Hp) (scope : Scope) (C : Addr) (cl : List (Str × Addr)) (fp : List Addr) : MOk (X.blk s H scope (compEnvC scope cl C X.env) fp) T X0 ρ (M.inner scope) :=
  ⟨m.c.blk _ _ _ _ _, m.N, by show relabB X.env.scope scope = _; rw [m.sc]; rfl, (fun x z => by show (scope.names.lookup x == some .cell) = true; exact z), m.nm, m.nF, fun f fi h => m.inn _ _ _ _ _ f fi h, fun s' H' sc' ce' fp' f fi h => m.inn s' H' sc' ce' fp' f fi h, m.blt⟩
theorem kw_all {kws : List Keyword} {ks : List Str} {env : PySem.Env} (h : kws.map (·.arg) = ks.map some) : (backToKw pos (keywordEach kws env)).all (·.1.isSome) = true ∧ (backToKw pos (keywordEach kws env)).filterMap (·.1) = ks ∧ (backToKw pos (keywordEach kws env)).any (·.1.isNone) = false := by
  induction kws generalizing ks with
  | nil =>
    cases ks with
    | nil => exact ⟨rfl, rfl, rfl⟩
    | cons _ _ => simp at h
  | cons kw kws ih =>
    cases ks with
    | nil => simp at h
    | cons k ks =>
      simp only [List.map_cons, List.cons.injEq] at h
      obtain ⟨q1, q2, q3⟩ := ih h.2
      obtain ⟨arg, v, kp⟩ := kw
      obtain rfl : arg = some k := h.1
      have e : keywordEach (⟨some k, v, kp⟩ :: kws) env = (some k, eval v env) :: keywordEach kws env := rfl
      rw [e]
      have : ∀ l : List (Option Str × PySem.Sem Value), backToKw pos ((some k, eval v env) :: l) = (some k, do let v ← eval v env; standAt pos; pure v) :: backToKw pos l := fun _ => rfl
      rw [this, List.filterMap_cons, List.all_cons, List.any_cons, q1, q2, q3]
      exact ⟨rfl, rfl, rfl⟩
theorem es_star {M : MC} : ∀ {as : List IE} {es : List Expr}, okEs M as es = true → es.all (fun e => !isStar e) = true ∧ as.length = es.length
  | [], [], _ => ⟨rfl, rfl⟩
  | [], _ :: _, h => by simp [okEs] at h
  | _ :: _, [], h => by simp [okEs] at h
  | a :: as, e :: es, h => by
    simp only [okEs, Bool.and_eq_true] at h
    obtain ⟨q1, q2⟩ := es_star h.2
    exact ⟨by rw [List.all_cons, q1, h.1.2]; rfl, by rw [List.length_cons, List.length_cons, q2]⟩
theorem pl_ok {es : List Expr} {env : PySem.Env} {pos : Pos} (h : es.all (fun e => !isStar e) = true) : (backTo pos (starEach es env)).any (·.1) = false := by
  rw [backTo_any]; exact stars_ok h
end
end VL
set_option Elab.async false
set_option linter.all false
set_option maxRecDepth 100000
set_option maxHeartbeats 8000000
namespace VL
open PySem L2
section
variable {T : Tb} {ρ : Nat → Fn}
abbrev Good (T : Tb) (ρ : Nat → Fn) (i : IE) : Prop := ∀ {X : Cx} {E : XK} {M : MC} (e : Expr), MOk X T E ρ M → okE M i e = true → SE X T E e (ev ρ i)
theorem SE.eq {X : Cx} {E : XK} {e : Expr} {f g : FE} (h : SE X T E e f) (q : ∀ ro env, g ro env = f ro env) : SE X T E e g := by
  have : g = f := funext fun ro => funext fun env => q ro env
  rw [this]; exact h
theorem lit_ok {X : Cx} {E : XK} : ∀ (w : W) (e : Expr), litB w e = true → SE X T E e (ev ρ (.lit w)) := fun w e h => by
  unfold litB at h
  split at h
  · cases beq_iff_eq.mp h
    exact (se_c pe_int fun _ _ _ => .int).eq fun _ _ => by rw [ev]
  · cases beq_iff_eq.mp h
    exact (se_c pe_bl fun _ _ _ => .bl).eq fun _ _ => by rw [ev]
  · exact (se_c pe_non fun _ _ _ => .non).eq fun _ _ => by rw [ev]
  · cases beq_iff_eq.mp h
    exact (se_c pe_str fun _ _ _ => .str).eq fun _ _ => by rw [ev]
  · cases h
theorem gv_ok {X : Cx} {E : XK} {M : MC} {f : Nat} {x : Str} {pos : Pos} (m : MOk X T E ρ M) (h1 : glB M x = true) (h2 : M.fns[f]? = some (.gv x)) : SE X T E (.Name x pos) (ev ρ (.call f [])) := by
  obtain ⟨hg, hd⟩ := m.glb h1
  obtain ⟨v, w, u, q1, q2, q3, q4⟩ := m.fns f _ h2
  refine (se_c (pe_glob hg q2 q3 hd) q4).eq fun ro env => ?_
  rw [ev, evs, R.bind_ok, callFn, takeB, q1]
  rfl
theorem call_ok {X : Cx} {E : XK} {M : MC} {f n : Nat} {x : Str} {ks : List Str} {pos p : Pos} {es : List Expr} {kws : List Keyword} {is iks : List IE} (m : MOk X T E ρ M) (h1 : glB M x = true) (h2 : M.fns[f]? = some (.fn x n ks)) (hn : es.length = n) (hk : kws.map (·.arg) = ks.map some)
    (ha : SPo X T E ρ es is) (hkw : SKw X T E ρ kws iks) (hst : es.all (fun e => !isStar e) = true) (l1 : is.length = es.length) (l2 : iks.length = kws.length) : SE X T E (.Call (.Name x p) es kws pos) (ev ρ (.call f (is ++ iks))) := by
  obtain ⟨hg, hd⟩ := m.glb h1
  obtain ⟨fa, q1, q2, q3⟩ := m.fns f _ h2
  obtain ⟨k1, k2, k3⟩ := kw_all (pos := pos) (env := X.env) hk
  have lk : kws.length = ks.length := by have := congrArg List.length hk; simpa using this
  subst hn
  cases es with
  | nil =>
    have : is = [] := List.length_eq_zero_iff.mp l1
    subst this
    rw [List.nil_append]
    exact se_call0 q3 hg q1 q2 hkw hd k1 k2 (by rw [k3, pl_ok hst]; rfl) (by rw [l2, lk])
  | cons e es =>
    have hs : isStar e = false := by simp only [List.all_cons, Bool.and_eq_true, Bool.not_eq_true'] at hst; exact hst.1
    exact se_call q3 hg q1 q2 ha hkw hd (star_ok hs) k1 k2 (by rw [k3, pl_ok hst]; rfl) l1 (by rw [l2, lk])
theorem make_ok {X : Cx} {E : XK} {M : MC} {f n c : Nat} {x : Str} {ks : List Str} {pos p : Pos} {es : List Expr} {kws : List Keyword} {is iks : List IE} (m : MOk X T E ρ M) (h1 : glB M x = true) (h2 : M.fns[f]? = some (.mk c x n ks)) (hn : es.length = n) (hk : kws.map (·.arg) = ks.map some)
    (ha : SPo X T E ρ es is) (hkw : SKw X T E ρ kws iks) (hst : es.all (fun e => !isStar e) = true) (l1 : is.length = es.length) (l2 : iks.length = kws.length) : SE X T E (.Call (.Name x p) es kws pos) (ev ρ (.make c f (is ++ iks))) := by
  obtain ⟨hg, hd⟩ := m.glb h1
  obtain ⟨q1, q2, q3⟩ := m.fns f _ h2
  obtain ⟨k1, k2, k3⟩ := kw_all (pos := pos) (env := X.env) hk
  have lk : kws.length = ks.length := by have := congrArg List.length hk; simpa using this
  subst hn
  cases es with
  | nil =>
    have : is = [] := List.length_eq_zero_iff.mp l1
    subst this
    rw [List.nil_append]
    exact se_make0 q3 hg q1 q2 hkw hd k1 k2 (by rw [k3, pl_ok hst]; rfl) (by rw [l2, lk])
  | cons e es =>
    have hs : isStar e = false := by simp only [List.all_cons, Bool.and_eq_true, Bool.not_eq_true'] at hst; exact hst.1
    exact se_make q3 hg q1 q2 ha hkw hd (star_ok hs) k1 k2 (by rw [k3, pl_ok hst]; rfl) l1 (by rw [l2, lk])
theorem few_ok {es : List Expr} {env : PySem.Env} {pos : Pos} (hst : es.all (fun e => !isStar e) = true) (hlt : es.length < 25) : methodCallForm (es.length + ([] : List Keyword).length) (backTo pos (starEach es env)) (backToKw pos (keywordEach [] env)) = true := by
  have h1 : (backTo pos (starEach es env)).all (fun x => !x.1) = true := by
    have q := pl_ok (env := env) (pos := pos) hst
    rw [List.any_eq_false] at q
    rw [List.all_eq_true]
    intro x hx
    have := q x hx
    simpa using this
  unfold methodCallForm
  rw [h1]
  have : decide (es.length + ([] : List Keyword).length + 0 < 30) = true := decide_eq_true (by simp; omega)
  simpa [backToKw, keywordEach] using this
theorem meth_tree {o : Expr} {m0 : Str} {ap pos : Pos} {es : List Expr} {env : PySem.Env} (hsup : isSup o = false) (hl : (ap.endLine == pos.line) = true) (hst : es.all (fun e => !isStar e) = true) (hlt : es.length < 25) :
    eval (.Call (.Attribute o m0 ap) es [] pos) env = (do
      let ov ← eval o env
      standAt ap.atName
      let (f, first) ← holding [ov] (getMethod ov m0 (do return (← importBound o env).getD true))
      callWith pos f first (backTo pos (starEach es env)) (backToKw pos (keywordEach [] env))) := by
  rw [arm_eval_Call, sup_ok hsup]
  unfold methodCall
  rw [few_ok hst hlt]
  unfold methodCallPos
  rw [hl]
  rfl
theorem meth_ok {X : Cx} {E : XK} {M : MC} {f n c mi : Nat} {m0 : Str} {pos ap : Pos} {o : Expr} {es : List Expr} {ir : IE} {is : List IE} (m : MOk X T E ρ M) (hnm : nmB M mi m0 = true) (hsup : isSup o = false) (h2 : M.fns[f]? = some (.mt c mi n)) (hn : es.length = n) (hl : (ap.endLine == pos.line) = true)
    (hr : SE1 X T E ρ o ir) (ha : SPo X T E ρ es is) (hst : es.all (fun e => !isStar e) = true) (hlt : es.length < 25) (l1 : is.length = es.length) : SE X T E (.Call (.Attribute o m0 ap) es [] pos) (ev ρ (.meth c mi f ir is)) := by
  obtain rfl : T.nm mi = m0 := m.nm _ _ (beq_iff_eq.mp hnm)
  obtain ⟨fa, q1, q2, q3⟩ := m.fns f _ h2
  subst hn
  cases es with
  | nil =>
    have : is = [] := List.length_eq_zero_iff.mp l1
    subst this
    exact se_meth0 hr q1 q2 q3 (meth_tree hsup hl hst hlt)
  | cons e es =>
    have hs : isStar e = false := by simp only [List.all_cons, Bool.and_eq_true, Bool.not_eq_true'] at hst; exact hst.1
    have hst' : es.all (fun e => !isStar e) = true := by simp only [List.all_cons, Bool.and_eq_true] at hst; exact hst.2
    exact se_meth hr q1 q2 q3 ha (star_ok hs) (pl_ok hst') l1 (meth_tree hsup hl hst hlt)
end
end VL
set_option Elab.async false
set_option linter.all false
set_option maxRecDepth 100000
set_option maxHeartbeats 4000000
namespace VL
open PySem L2
section
variable {T : Tb} {ρ : Nat → Fn}
theorem no {P : Prop} (h : false = true) : P := nomatch h
section
variable {X : Cx} {E : XK} {M : MC}
theorem nameB_ok {i : Nat} {e : Expr} (m : MOk X T E ρ M) (h : nameB M i e = true) : PE X e (tVar i) := by
  cases e with
  | Name x p => exact m.slot h
  | _ => exact no h
theorem se1_any {a : IE} {e : Expr} (m : MOk X T E ρ M) (h : (borB M a e || okE M a e) = true) (q : okE M a e = true → SE X T E e (ev ρ a)) : SE1 X T E ρ e a := by
  by_cases hb : ∃ i, a = .bor i
  · obtain ⟨i, rfl⟩ := hb
    have h : nameB M i e = true := by
      rw [okE, Bool.or_false] at h
      exact h
    exact se1_bor (nameB_ok m h)
  · have hn : ∀ j, a ≠ .bor j := fun j z => hb ⟨j, z⟩
    have h0 : borB M a e = false := by cases a <;> first | rfl | exact absurd rfl (hn _)
    rw [h0, Bool.false_or] at h
    exact se1_of (q h) hn
theorem shape_ok {a : IE} {e : Expr} {env : PySem.Env} (h : valB a e = true) (hc : isCmpI a = false) (whole : PySem.Sem Value) : isTrue e env whole = (do let v ← whole; standAt e.pos; holding [v] (truthy v)) := by
  cases e with
  | UnaryOp op x p => cases op <;> first | rfl | exact no h
  | BoolOp _ _ _ => exact no h
  | IfExp _ _ _ _ => exact no h
  | Compare _ _ _ _ =>
    have h : isCmpI a = true := h
    rw [hc] at h; exact no h
  | _ => rfl
theorem ST.eq {e : Expr} {f g : Env → Env → R Bool} (h : ST X T E e f) (q : ∀ ro env, g ro env = f ro env) : ST X T E e g := by
  have : g = f := funext fun ro => funext fun env => q ro env
  rw [this]; exact h
theorem cmp1_ok {o : CmpO} {ops : List CmpOp} {rs : List Expr} (h : cmp1B o ops rs = true) : ∃ r, ops = [o.op] ∧ rs = [r] ∧ isSetE r = false := by
  unfold cmp1B at h
  split at h
  · obtain ⟨h1, h2⟩ := iff_and h
    cases beq_iff_eq.mp h1
    exact ⟨_, rfl, rfl, not_t h2⟩
  · exact no h
theorem cmp2_ok {o p : CmpO} {ops : List CmpOp} {rs : List Expr} (h : cmp2B o p ops rs = true) : ∃ r1 r2, ops = [o.op, p.op] ∧ rs = [r1, r2] ∧ isSetE r2 = false := by
  unfold cmp2B at h
  split at h
  · obtain ⟨h, h3⟩ := iff_and h
    obtain ⟨h1, h2⟩ := iff_and h
    cases beq_iff_eq.mp h1
    cases beq_iff_eq.mp h2
    exact ⟨_, _, rfl, rfl, not_t h3⟩
  · exact no h
theorem fname_ok {f : Expr} {x : Str} (h : fnameB f x = true) : ∃ p, f = .Name x p := by
  unfold fnameB at h
  split at h
  · cases beq_iff_eq.mp h
    exact ⟨_, rfl⟩
  · exact no h
theorem isin_ok {t : Ty} {f : Expr} {es : List Expr} {kws : List Keyword} (h : isinB M t f es kws = true) : ∃ p q e, f = .Name "isinstance" p ∧ es = [e, .Name t.name q] ∧ kws = [] ∧ bltB M "isinstance" = true ∧ bltB M t.name = true ∧ isStar e = false := by
  unfold isinB at h
  split at h
  · obtain ⟨h, h5⟩ := iff_and h
    obtain ⟨h, h4⟩ := iff_and h
    obtain ⟨h, h3⟩ := iff_and h
    obtain ⟨h1, h2⟩ := iff_and h
    obtain ⟨p, rfl⟩ := fname_ok h1
    obtain ⟨q, rfl⟩ := fname_ok h3
    exact ⟨p, q, _, rfl, rfl, rfl, h2, h4, not_t h5⟩
  · exact no h
theorem it1_ok {x : Str} {f : Expr} {es : List Expr} {kws : List Keyword} (h : it1B M x f es kws = true) : ∃ p e, f = .Name x p ∧ es = [e] ∧ kws = [] ∧ bltB M x = true ∧ isStar e = false := by
  unfold it1B at h
  split at h
  · obtain ⟨h, h3⟩ := iff_and h
    obtain ⟨h1, h2⟩ := iff_and h
    obtain ⟨p, rfl⟩ := fname_ok h1
    exact ⟨p, _, rfl, rfl, rfl, h2, not_t h3⟩
  · exact no h
theorem it2_ok {x : Str} {f : Expr} {es : List Expr} {kws : List Keyword} (h : it2B M x f es kws = true) : ∃ p e d, f = .Name x p ∧ es = [e, d] ∧ kws = [] ∧ bltB M x = true ∧ isStar e = false ∧ isStar d = false := by
  unfold it2B at h
  split at h
  · obtain ⟨h, h4⟩ := iff_and h
    obtain ⟨h, h3⟩ := iff_and h
    obtain ⟨h1, h2⟩ := iff_and h
    obtain ⟨p, rfl⟩ := fname_ok h1
    exact ⟨p, _, _, rfl, rfl, rfl, h2, not_t h3, not_t h4⟩
  · exact no h
theorem lrg1_ok {tp : Bool} {f : Expr} {es : List Expr} {kws : List Keyword} (h : lrg1B M tp f es kws = true) : ∃ p e, f = .Name (lrgN tp) p ∧ es = [e] ∧ kws = [] ∧ bltB M (lrgN tp) = true := by
  unfold lrg1B at h
  split at h
  · obtain ⟨h1, h2⟩ := iff_and h
    obtain ⟨p, rfl⟩ := fname_ok h1
    exact ⟨p, _, rfl, rfl, rfl, h2⟩
  · exact no h
theorem lrg2_ok {g : Expr} {ks : List Keyword} {n : Nat} {one : Bool} (h : lrg2B M g ks n one = true) : ∃ p, g = .Name "range" p ∧ ks = [] ∧ bltB M "range" = true ∧ (if one then n == 1 else n == 2) = true := by
  unfold lrg2B at h
  obtain ⟨h, h4⟩ := iff_and h
  obtain ⟨h, h3⟩ := iff_and h
  obtain ⟨h1, h2⟩ := iff_and h
  obtain ⟨p, rfl⟩ := fname_ok h1
  exact ⟨p, rfl, List.isEmpty_iff.mp h3, h2, h4⟩
theorem one_of {vs : List Expr} (h : (vs.length == 1) = true) : ∃ a, vs = [a] := by
  match vs, h with
  | [a], _ => exact ⟨a, rfl⟩
theorem two_of' {vs : List Expr} (h : (vs.length == 2) = true) : ∃ a b, vs = [a, b] := by
  match vs, h with
  | [a, b], _ => exact ⟨a, b, rfl⟩
theorem tup_ok {e : Expr} (h : isTupE e = true) : ∃ a b c, e = .Tuple a b c := by
  cases e with
  | Tuple a b c => exact ⟨a, b, c, rfl⟩
  | _ => exact no h
theorem fn_ok {f : Nat} {x : Str} {es : List Expr} {kws : List Keyword} (h : fnB M f x es kws = true) : ∃ ks, M.fns[f]? = some (.fn x es.length ks) ∧ kws.map (·.arg) = ks.map some := by
  unfold fnB at h
  split at h
  · rename_i y n ks hy
    obtain ⟨h, h3⟩ := iff_and h
    obtain ⟨h1, h2⟩ := iff_and h
    cases beq_iff_eq.mp h1
    cases beq_iff_eq.mp h2
    exact ⟨ks, hy, beq_iff_eq.mp h3⟩
  · exact no h
theorem mk_ok {f c : Nat} {x : Str} {es : List Expr} {kws : List Keyword} (h : mkB M f c x es kws = true) : ∃ ks, M.fns[f]? = some (.mk c x es.length ks) ∧ kws.map (·.arg) = ks.map some := by
  unfold mkB at h
  split at h
  · rename_i c' y n ks hy
    obtain ⟨h, h3⟩ := iff_and h
    obtain ⟨h, h2⟩ := iff_and h
    obtain ⟨h0, h1⟩ := iff_and h
    cases beq_iff_eq.mp h0
    cases beq_iff_eq.mp h1
    cases beq_iff_eq.mp h2
    exact ⟨ks, hy, beq_iff_eq.mp h3⟩
  · exact no h
theorem mt_ok {f c mi k : Nat} (h : mtB M f c mi k = true) : M.fns[f]? = some (.mt c mi k) := by
  unfold mtB at h
  split at h
  · rename_i c' mi' n hy
    obtain ⟨h, h2⟩ := iff_and h
    obtain ⟨h0, h1⟩ := iff_and h
    cases beq_iff_eq.mp h0
    cases beq_iff_eq.mp h1
    cases beq_iff_eq.mp h2
    exact hy
  · exact no h
theorem gvB_ok {f : Nat} {x : Str} (h : gvB M f x = true) : M.fns[f]? = some (.gv x) := by
  unfold gvB at h
  split at h
  · rename_i y hy
    cases beq_iff_eq.mp h
    exact hy
  · exact no h
theorem mut_ok {i : Nat} {fs : List Ps} {mm : Mut} {as : List IE} {o : Expr} {n : Str} {ap p : Pos} {es : List Expr} (m : MOk X T E ρ M) (h1 : mutB mm n = true) (h2 : pathB M i fs o = true) (h3 : isSup o = false) (h4 : (ap.endLine == p.line) = true) (h5 : es.length < 25)
    (ha : SA X T E es (evs ρ as)) (hst : es.all (fun e => !isStar e) = true) (hl : as.length = es.length) : SE X T E (.Call (.Attribute o n ap) es [] p) (ev ρ (.mut i fs mm as)) := by
  have hp := m.path h2
  have run : ∀ {r : V → List V → Hp → VK → Prop} {id : String}, PySem.PlainAttrs mm.ty → OpM T r mm → PySem.Slot mm.ty n id → PySem.typeOf (.builtin id) = pure (.type "method_descriptor") → MtR X id r → SE X T E (.Call (.Attribute o n ap) es [] p) (ev ρ (.mut i fs mm as)) := fun pla om slot hty hm => by
    cases es with
    | nil =>
      have : as = [] := List.length_eq_zero_iff.mp hl
      subst this
      exact se_mutR0 m.c pla om slot hty hm hp (sup_ok h3) h4
    | cons e es =>
      have hs : isStar e = false := by simp only [List.all_cons, Bool.and_eq_true, Bool.not_eq_true'] at hst; exact hst.1
      have hst' : es.all (fun e => !isStar e) = true := by simp only [List.all_cons, Bool.and_eq_true] at hst; exact hst.2
      exact se_mutR m.c pla om slot hty hm hp ha (sup_ok h3) (few_ok hst h5) h4 (star_ok hs) (pl_ok hst')
  cases mm with
  | append =>
    cases beq_iff_eq.mp (show (n == ("append" : Str)) = true from h1)
    exact run PySem.F.plainAttrs_list om_append PySem.F.slot_list_append PySem.F.type_list_append mt_append
  | extend =>
    cases beq_iff_eq.mp (show (n == ("extend" : Str)) = true from h1)
    exact run PySem.F.plainAttrs_list om_extend PySem.F.slot_list_extend PySem.F.type_list_extend mt_extendR
  | pop =>
    cases beq_iff_eq.mp (show (n == ("pop" : Str)) = true from h1)
    exact run PySem.F.plainAttrs_list om_pop PySem.F.slot_list_pop PySem.F.type_list_pop (fun pins st σ H x vs v us Q I rx rv h => h.elim (mt_pop pins st σ H x vs v us Q I rx rv) (mt_popAt pins st σ H x vs v us Q I rx rv))
  | setix => exact no h1
  | update =>
    cases beq_iff_eq.mp (show (n == ("update" : Str)) = true from h1)
    exact run PySem.F.plainAttrs_dict om_update PySem.F.slot_dict_update PySem.F.type_dict_update mt_upd
  | setf f => exact no h1
theorem mtd_ok {mm : Mtd} {r : IE} {as : List IE} {o : Expr} {ap p : Pos} {es : List Expr} (m : MOk X T E ρ M) (ho : SE X T E o (ev ρ r)) (h3 : isSup o = false) (h4 : (ap.endLine == p.line) = true) (h5 : es.length < 25) (hn : es.isEmpty = false)
    (ha : SA X T E es (evs ρ as)) (hst : es.all (fun e => !isStar e) = true) : SE X T E (.Call (.Attribute o mm.name ap) es [] p) (ev ρ (.mtd mm r as)) := by
  cases es with
  | nil => cases hn
  | cons e es =>
    have hs : isStar e = false := by simp only [List.all_cons, Bool.and_eq_true, Bool.not_eq_true'] at hst; exact hst.1
    have hst' : es.all (fun e => !isStar e) = true := by simp only [List.all_cons, Bool.and_eq_true] at hst; exact hst.2
    exact se_mtd m.c ho ha (sup_ok h3) (few_ok hst h5) h4 (star_ok hs) (pl_ok hst')
theorem blt_ok {b : Blt} {as : List IE} {f : Expr} {es : List Expr} {kws : List Keyword} {p : Pos} (m : MOk X T E ρ M) (h1 : fnameB f b.name = true) (h2 : bltB M b.name = true) (h3 : kws.isEmpty = true) (h4 : es.isEmpty = false) (h5 : okEs M as es = true) (ha : SA X T E es (evs ρ as)) : SE X T E (.Call f es kws p) (ev ρ (.blt b as)) := by
  obtain ⟨q, rfl⟩ := fname_ok h1
  cases List.isEmpty_iff.mp h3
  obtain ⟨g1, g2⟩ := m.bltb h2
  obtain ⟨s1, s2⟩ := es_star h5
  cases es with
  | nil => cases h4
  | cons e es =>
    have hs : isStar e = false := by simp only [List.all_cons, Bool.and_eq_true, Bool.not_eq_true'] at s1; exact s1.1
    have hst' : es.all (fun e => !isStar e) = true := by simp only [List.all_cons, Bool.and_eq_true] at s1; exact s1.2
    exact se_blt m.c b g1 g2 ha (star_ok hs) (pl_ok hst')
end
mutual
theorem okE_ok : ∀ (i : IE) {X : Cx} {E : XK} {M : MC} (e : Expr), MOk X T E ρ M → okE M i e = true → SE X T E e (ev ρ i)
  | .lit w, X, E, M, e, m, h => lit_ok w e (by rw [okE] at h; exact h)
  | .var i, X, E, M, e, m, h => se_var (nameB_ok m (by rw [okE] at h; exact h))
  | .frz i, X, E, M, e, m, h => se_frz (nameB_ok m (by rw [okE] at h; exact h))
  | .mov i, X, E, M, e, m, h => se_mov (nameB_ok m (by rw [okE] at h; exact h))
  | .bor i, X, E, M, e, m, h => no (by rw [okE] at h; exact h)
  | .lend xs a, X, E, M, e, m, h => se_lend (okE_ok a e m (by rw [okE] at h; exact h))
  | .bin o a b, X, E, M, e, m, h => by
    cases e with
    | BinOp l op r p =>
      rw [okE] at h
      obtain ⟨h, h3⟩ := iff_and h
      obtain ⟨h, h2⟩ := iff_and h
      cases beq_iff_eq.mp h
      exact se_bin m.c o (okE_ok a l m h2) (okE_ok b r m h3)
    | _ => exact no h
  | .neg a, X, E, M, e, m, h => by
    cases e with
    | UnaryOp op x p =>
      rw [okE] at h
      obtain ⟨h, h2⟩ := iff_and h
      cases beq_iff_eq.mp h
      exact se_neg (okE_ok a x m h2)
    | _ => exact no h
  | .cmp o a b, X, E, M, e, m, h => by
    cases e with
    | Compare l ops rs p =>
      rw [okE] at h
      obtain ⟨h, h3⟩ := iff_and h
      obtain ⟨h, h2⟩ := iff_and h
      obtain ⟨r, rfl, rfl, hr⟩ := cmp1_ok h
      exact se_cmp m.c o (marks_ok hr) (okE_ok a l m h2) (okE_ok b r m h3)
    | _ => exact no h
  | .chain o o2 a b d, X, E, M, e, m, h => by
    cases e with
    | Compare l ops rs p =>
      rw [okE] at h
      obtain ⟨h, h4⟩ := iff_and h
      obtain ⟨h, h3⟩ := iff_and h
      obtain ⟨h, h2⟩ := iff_and h
      obtain ⟨r1, r2, rfl, rfl, hr⟩ := cmp2_ok h
      exact se_chain m.c (marks_ok hr) (okE_ok a l m h2) (okE_ok b r1 m h3) (okE_ok d r2 m h4)
    | _ => exact no h
  | .tup as, X, E, M, e, m, h => by
    cases e with
    | Tuple es k p =>
      rw [okE] at h
      exact se_tup (okEs_ok as es m h).1
    | _ => exact no h
  | .lst as, X, E, M, e, m, h => by
    cases e with
    | List es p =>
      rw [okE] at h
      exact se_lst (okEs_ok as es m h).1
    | _ => exact no h
  | .ands as, X, E, M, e, m, h => by
    cases e with
    | BoolOp o es p =>
      rw [okE] at h
      obtain ⟨h, h3⟩ := iff_and h
      obtain ⟨h, h2⟩ := iff_and h
      cases beq_iff_eq.mp h
      exact (okAnd_ok as es p m h2 (fun z => by subst z; exact no h3)).eq fun _ _ => by rw [ev]
    | _ => exact no h
  | .ors as, X, E, M, e, m, h => by
    cases e with
    | BoolOp o es p =>
      rw [okE] at h
      obtain ⟨h, h3⟩ := iff_and h
      obtain ⟨h, h2⟩ := iff_and h
      cases beq_iff_eq.mp h
      exact (okOr_ok as es p m h2 (fun z => by subst z; exact no h3)).eq fun _ _ => by rw [ev]
    | _ => exact no h
  | .dnot a, X, E, M, e, m, h => by
    cases e with
    | UnaryOp op x p =>
      rw [okE] at h
      obtain ⟨h, h2⟩ := iff_and h
      cases beq_iff_eq.mp h
      exact se_dnot (okE_ok a x m h2)
    | _ => exact no h
  | .ite t a b, X, E, M, e, m, h => by
    cases e with
    | IfExp c x y p =>
      rw [okE] at h
      obtain ⟨h, h3⟩ := iff_and h
      obtain ⟨h, h2⟩ := iff_and h
      exact st_ite (okT_ok t c m h) (okE_ok a x m h2) (okE_ok b y m h3)
    | _ => exact no h
  | .blt b as, X, E, M, e, m, h => by
    cases e with
    | Call f es kws p =>
      rw [okE] at h
      obtain ⟨h, h5⟩ := iff_and h
      obtain ⟨h, h4⟩ := iff_and h
      obtain ⟨h, h3⟩ := iff_and h
      obtain ⟨h, h2⟩ := iff_and h
      exact blt_ok m h h2 h3 (not_t h4) h5 (okEs_ok as es m h5).1
    | _ => exact no h
  | .isin a t, X, E, M, e, m, h => by
    cases e with
    | Call f es kws p =>
      rw [okE] at h
      obtain ⟨h, h2⟩ := iff_and h
      obtain ⟨q, q2, d, rfl, rfl, rfl, b1, b2, b3⟩ := isin_ok h
      obtain ⟨g1, g2⟩ := m.bltb b1
      obtain ⟨g3, g4⟩ := m.bltb b2
      exact se_isin m.c t g1 g2 g3 g4 (okE_ok a d m h2) (star_ok b3)
    | _ => exact no h
  | .lrg tp lo hi, X, E, M, e, m, h => by
    cases e with
    | Call f es kws p =>
      have h : (lrg1B M tp f es kws && (match es.headD default with
      | .Call g ds ks _ => lrg2B M g ks ds.length lo.isNone && okLr M lo ds && okE M hi (ds.getLastD default) && ds.all (fun e => !isStar e)
      | _ => false)) = true := by rw [okE] at h; exact h
      obtain ⟨h1, h2⟩ := iff_and h
      obtain ⟨q, d, rfl, rfl, rfl, b1⟩ := lrg1_ok h1
      cases d with
      | Call g ds ks q2 =>
        have h2 : (lrg2B M g ks ds.length lo.isNone && okLr M lo ds && okE M hi (ds.getLastD default) && ds.all (fun e => !isStar e)) = true := h2
        obtain ⟨h2, k4⟩ := iff_and h2
        obtain ⟨h2, k3⟩ := iff_and h2
        obtain ⟨k1, k2⟩ := iff_and h2
        obtain ⟨q3, rfl, rfl, b2, b3⟩ := lrg2_ok k1
        obtain ⟨g1, g2⟩ := m.bltb b1
        obtain ⟨g3, g4⟩ := m.bltb b2
        cases lo with
        | none =>
          obtain ⟨a, rfl⟩ := one_of b3
          have s1 : isStar a = false := by simpa using k4
          exact se_lrg1 m.c g1 g2 g3 g4 (okE_ok hi a m k3) (star_ok s1)
        | some lo =>
          obtain ⟨a, b, rfl⟩ := two_of' b3
          have s1 : isStar a = false ∧ isStar b = false := by simpa using k4
          rw [okLr] at k2
          exact se_lrg2 m.c g1 g2 g3 g4 (okE_ok lo a m k2) (okE_ok hi b m k3) (star_ok s1.1) (star_ok s1.2) (pl_ok (by rw [List.all_cons, s1.2]; rfl))
      | _ => exact no h2
    | _ => exact no h
  | .idx a b, X, E, M, e, m, h => by
    cases e with
    | Subscript x y p =>
      rw [okE] at h
      obtain ⟨h, h3⟩ := iff_and h
      obtain ⟨h, h2⟩ := iff_and h
      exact se_idx (e := x) m.c (plain_ok h) (okE_ok a x m h2) (okE_ok b y m h3)
    | _ => exact no h
  | .slc a lo hi, X, E, M, e, m, h => by
    cases e with
    | Subscript x y p =>
      cases y with
      | Slice l r st q =>
        rw [okE] at h
        obtain ⟨h, h4⟩ := iff_and h
        obtain ⟨h, h3⟩ := iff_and h
        obtain ⟨h, h2⟩ := iff_and h
        cases st with
        | none => exact se_slc m.c (okE_ok a x m h2) (okO_ok lo l m h3) (okO_ok hi r m h4)
        | some _ => exact no h
      | _ => exact no h
    | _ => exact no h
  | .fld a f, X, E, M, e, m, h => by
    cases e with
    | Attribute x n p =>
      rw [okE] at h
      obtain ⟨h, h3⟩ := iff_and h
      obtain ⟨h, h2⟩ := iff_and h
      obtain ⟨rfl, hn⟩ := m.fld h
      exact se_fld m.c hn (sup_ok (not_t h2)) (okE_ok a x m h3)
    | _ => exact no h
  | .call f as, X, E, M, e, m, h => by
    cases e with
    | Call g es kws p =>
      cases g with
      | Name x q =>
        rw [okE] at h
        obtain ⟨h, h3⟩ := iff_and h
        obtain ⟨h, h2⟩ := iff_and h
        obtain ⟨ks, hy, hk⟩ := fn_ok h2
        obtain ⟨is, iks, e0, a1, a2, a3, a4, a5⟩ := okA_ok as es kws m h3
        rw [e0]
        exact call_ok m h hy rfl hk a1 a2 a3 a4 a5
      | _ => exact no h
    | Name x p =>
      rw [okE] at h
      obtain ⟨h, h3⟩ := iff_and h
      obtain ⟨h, h2⟩ := iff_and h
      rw [List.isEmpty_iff.mp h]
      exact gv_ok m h2 (gvB_ok h3)
    | _ => exact no h
  | .make c f as, X, E, M, e, m, h => by
    cases e with
    | Call g es kws p =>
      cases g with
      | Name x q =>
        rw [okE] at h
        obtain ⟨h, h3⟩ := iff_and h
        obtain ⟨h, h2⟩ := iff_and h
        obtain ⟨ks, hy, hk⟩ := mk_ok h2
        obtain ⟨is, iks, e0, a1, a2, a3, a4, a5⟩ := okA_ok as es kws m h3
        rw [e0]
        exact make_ok m h hy rfl hk a1 a2 a3 a4 a5
      | _ => exact no h
    | _ => exact no h
  | .meth c mi f r as, X, E, M, e, m, h => by
    cases e with
    | Call g es kws p =>
      cases g with
      | Attribute o m0 ap =>
        rw [okE] at h
        obtain ⟨h, h8⟩ := iff_and h
        obtain ⟨h, h7⟩ := iff_and h
        obtain ⟨h, h6⟩ := iff_and h
        obtain ⟨h, h5⟩ := iff_and h
        obtain ⟨h, h4⟩ := iff_and h
        obtain ⟨h, h3⟩ := iff_and h
        obtain ⟨h, h2⟩ := iff_and h
        cases List.isEmpty_iff.mp h
        obtain ⟨is, iks, e0, a1, a2, a3, a4, a5⟩ := okA_ok as es [] m h8
        have hk : iks = [] := List.length_eq_zero_iff.mp a5
        subst hk
        rw [List.append_nil] at e0
        subst e0
        exact meth_ok m h2 (not_t h3) (mt_ok h4) rfl h5 (se1_any m h7 fun z => okE_ok r o m z) a1 a3 (of_decide_eq_true h6) a4
      | _ => exact no h
    | _ => exact no h
  | .comp own it tg is d, X, E, M, e, m, h => by
    cases e with
    | ListComp elt gens scope p =>
      match gens, h with
      | [⟨t, iter, ifs, asy⟩], h =>
        rw [okE] at h
        obtain ⟨h, h8⟩ := iff_and h
        obtain ⟨h, h7⟩ := iff_and h
        obtain ⟨h, h6⟩ := iff_and h
        obtain ⟨h, h5⟩ := iff_and h
        obtain ⟨h, h4⟩ := iff_and h
        obtain ⟨h, h3⟩ := iff_and h
        obtain ⟨h, h2⟩ := iff_and h
        cases beq_iff_eq.mp h
        have ho : (ownP M own).map (·.2) = own := by unfold ownP; rw [List.map_map]; exact List.map_id _
        have q := se_comp (pos := p) (elt := elt) (tg := t) (iter := iter) (ifs := ifs) (scope := scope) (own := ownP M own) (it := it) (tgw := tg) (is := is) (ie := d) m.c (by rw [m.N, m.sc]; exact blk_ok h2) (okI_ok it t iter m h5)
          (fun s H C cl fp => (m.innr s H scope C cl fp).okG tg t h6) (fun s H C cl fp => okC_ok is ifs (m.innr s H scope C cl fp) h7) (fun s H C cl fp => okE_ok d elt (m.innr s H scope C cl fp) h8) (fold_ok (not_t h4))
          (fun i hi => by rw [ho]; exact List.contains_iff_mem.mp (List.all_eq_true.mp h3 i hi))
        rw [ho] at q
        exact q
      | [], h => exact no h
      | ⟨_, _, _, _⟩ :: _ :: _, h => exact no h
    | _ => exact no h
  | .mut i fs mm as, X, E, M, e, m, h => by
    cases e with
    | Call g es kws p =>
      cases g with
      | Attribute o n ap =>
        rw [okE] at h
        obtain ⟨h, h7⟩ := iff_and h
        obtain ⟨h, h6⟩ := iff_and h
        obtain ⟨h, h5⟩ := iff_and h
        obtain ⟨h, h4⟩ := iff_and h
        obtain ⟨h, h3⟩ := iff_and h
        obtain ⟨h, h2⟩ := iff_and h
        cases List.isEmpty_iff.mp h
        obtain ⟨s1, s2⟩ := es_star h7
        exact mut_ok m h2 h3 (not_t h4) h5 (of_decide_eq_true h6) (okEs_ok as es m h7).1 s1 s2
      | _ => exact no h
    | _ => exact no h
  | .dcomp own it tg is k d, X, E, M, e, m, h => by
    cases e with
    | DictComp kx vx gens scope p =>
      match gens, h with
      | [⟨t, iter, ifs, asy⟩], h =>
        rw [okE] at h
        obtain ⟨h, h9⟩ := iff_and h
        obtain ⟨h, h8⟩ := iff_and h
        obtain ⟨h, h7⟩ := iff_and h
        obtain ⟨h, h6⟩ := iff_and h
        obtain ⟨h, h5⟩ := iff_and h
        obtain ⟨h, h4⟩ := iff_and h
        obtain ⟨h, h3⟩ := iff_and h
        obtain ⟨h, h2⟩ := iff_and h
        cases beq_iff_eq.mp h
        have ho : (ownP M own).map (·.2) = own := by unfold ownP; rw [List.map_map]; exact List.map_id _
        have q := se_dcomp (pos := p) (kx := kx) (vx := vx) (tg := t) (iter := iter) (ifs := ifs) (scope := scope) (own := ownP M own) (it := it) (tgw := tg) (is := is) (ik := k) (ie := d) m.c (by rw [m.N, m.sc]; exact blk_ok h2) (okI_ok it t iter m h5)
          (fun s H C cl fp => (m.innr s H scope C cl fp).okG tg t h6) (fun s H C cl fp => okC_ok is ifs (m.innr s H scope C cl fp) h7) (fun s H C cl fp => okE_ok k kx (m.innr s H scope C cl fp) h8) (fun s H C cl fp => okE_ok d vx (m.innr s H scope C cl fp) h9) (fold_ok (not_t h4))
          (fun i hi => by rw [ho]; exact List.contains_iff_mem.mp (List.all_eq_true.mp h3 i hi))
        rw [ho] at q
        exact q
      | [], h => exact no h
      | ⟨_, _, _, _⟩ :: _ :: _, h => exact no h
    | _ => exact no h
  | .dct0, X, E, M, e, m, h => by
    cases e with
    | Dict ks vs p =>
      rw [okE] at h
      obtain ⟨h, h2⟩ := iff_and h
      cases List.isEmpty_iff.mp h
      cases List.isEmpty_iff.mp h2
      exact se_dct0
    | _ => exact no h
  | .disp tp st as, X, E, M, e, m, h => by
    cases e with
    | Tuple es k p =>
      rw [okE] at h
      obtain ⟨h, h2⟩ := iff_and h
      subst h
      exact se_disp (tp := true) (okD_ok st as es m h2)
    | List es p =>
      rw [okE] at h
      obtain ⟨h, h2⟩ := iff_and h
      have h := not_t h
      subst h
      exact se_disp (tp := false) (kk := 0) (okD_ok st as es m h2)
    | _ => exact no h
  | .mtd mm r as, X, E, M, e, m, h => by
    cases e with
    | Call g es kws p =>
      cases g with
      | Attribute o n ap =>
        rw [okE] at h
        obtain ⟨h, h8⟩ := iff_and h
        obtain ⟨h, h7⟩ := iff_and h
        obtain ⟨h, h6⟩ := iff_and h
        obtain ⟨h, h5⟩ := iff_and h
        obtain ⟨h, h4⟩ := iff_and h
        obtain ⟨h, h3⟩ := iff_and h
        obtain ⟨h, h2⟩ := iff_and h
        cases List.isEmpty_iff.mp h
        cases beq_iff_eq.mp h2
        obtain ⟨s1, s2⟩ := es_star h8
        exact mtd_ok m (okE_ok r o m h4) (not_t h3) h5 (of_decide_eq_true h6) (not_t h7) (okEs_ok as es m h8).1 s1
      | _ => exact no h
    | _ => exact no h
theorem okEs_ok : ∀ (as : List IE) {X : Cx} {E : XK} {M : MC} (es : List Expr), MOk X T E ρ M → okEs M as es = true → SA X T E es (evs ρ as) ∧ True
  | [], X, E, M, es, m, h => by
    rw [okEs] at h
    cases List.isEmpty_iff.mp h
    exact ⟨sa_nil, trivial⟩
  | a :: as, X, E, M, es, m, h => by
    cases es with
    | nil => exact no h
    | cons e es =>
      rw [okEs] at h
      obtain ⟨h, h3⟩ := iff_and h
      obtain ⟨h1, h2⟩ := iff_and h
      have qa := okE_ok a e m h1
      have qs := okEs_ok as es m h3
      have st := star_ok (env := X.env) (es := es) (not_t h2)
      exact ⟨sa_cons qa qs.1 st, trivial⟩
theorem okD_ok : ∀ (st : List Bool) (as : List IE) {X : Cx} {E : XK} {M : MC} (es : List Expr), MOk X T E ρ M → okD M st as es = true → SD X T E es (evD ρ st as)
  | [], [], X, E, M, es, m, h => by
    rw [okD] at h
    cases List.isEmpty_iff.mp h
    exact sd_nil
  | [], _ :: _, X, E, M, es, m, h => no (by rw [okD] at h <;> first | exact h | (intros; simp_all))
  | _ :: _, [], X, E, M, es, m, h => no (by rw [okD] at h <;> first | exact h | (intros; simp_all))
  | b :: st, a :: as, X, E, M, es, m, h => by
    cases es with
    | nil => rw [okD] at h; exact no h
    | cons e es =>
      rw [okD] at h
      obtain ⟨h, h3⟩ := iff_and h
      obtain ⟨h1, h2⟩ := iff_and h
      have qs := okD_ok st as es m h3
      cases beq_iff_eq.mp h1
      cases e with
      | Starred x p => exact sd_star m.c (okE_ok a x m h2) qs
      | _ => exact sd_one (okE_ok a _ m h2) qs (star_ok rfl)
theorem okAnd_ok : ∀ (as : List IE) {X : Cx} {E : XK} {M : MC} (es : List Expr) (p : Pos), MOk X T E ρ M → okAll M as es = true → es ≠ [] → SE X T E (.BoolOp .And es p) (evAnd ρ as)
  | [], X, E, M, es, p, m, h, z => by
    rw [okAll] at h
    exact absurd (List.isEmpty_iff.mp h) z
  | a :: as, X, E, M, es, p, m, h, z => by
    cases es with
    | nil => exact no h
    | cons e es =>
      rw [okAll] at h
      obtain ⟨h1, h2⟩ := iff_and h
      have qa := okE_ok a e m h1
      cases es with
      | nil =>
        cases as with
        | nil => exact se_and1 qa
        | cons b as => rw [okAll] at h2; exact no h2
      | cons d es =>
        have qr := okAnd_ok as (d :: es) p m h2 (by simp)
        cases as with
        | nil => rw [okAll] at h2; exact no h2
        | cons b as => exact se_and qa qr
theorem okOr_ok : ∀ (as : List IE) {X : Cx} {E : XK} {M : MC} (es : List Expr) (p : Pos), MOk X T E ρ M → okAll M as es = true → es ≠ [] → SE X T E (.BoolOp .Or es p) (evOr ρ as)
  | [], X, E, M, es, p, m, h, z => by
    rw [okAll] at h
    exact absurd (List.isEmpty_iff.mp h) z
  | a :: as, X, E, M, es, p, m, h, z => by
    cases es with
    | nil => exact no h
    | cons e es =>
      rw [okAll] at h
      obtain ⟨h1, h2⟩ := iff_and h
      have qa := okE_ok a e m h1
      cases es with
      | nil =>
        cases as with
        | nil => exact se_or1 qa
        | cons b as => rw [okAll] at h2; exact no h2
      | cons d es =>
        have qr := okOr_ok as (d :: es) p m h2 (by simp)
        cases as with
        | nil => rw [okAll] at h2; exact no h2
        | cons b as => exact se_or qa qr
theorem okA_ok : ∀ (as : List IE) {X : Cx} {E : XK} {M : MC} (es : List Expr) (kws : List Keyword), MOk X T E ρ M → okA M as es kws = true →
    ∃ is iks, as = is ++ iks ∧ SPo X T E ρ es is ∧ SKw X T E ρ kws iks ∧ es.all (fun e => !isStar e) = true ∧ is.length = es.length ∧ iks.length = kws.length
  | [], X, E, M, es, kws, m, h => by
    rw [okA] at h
    obtain ⟨h1, h2⟩ := iff_and h
    cases List.isEmpty_iff.mp h1
    cases List.isEmpty_iff.mp h2
    exact ⟨[], [], rfl, spo_nil, skw_nil, rfl, rfl, rfl⟩
  | a :: as, X, E, M, es, kws, m, h => by
    cases es with
    | cons e es =>
      rw [okA] at h
      obtain ⟨h, h3⟩ := iff_and h
      obtain ⟨h1, h2⟩ := iff_and h
      obtain ⟨is, iks, e0, a1, a2, a3, a4, a5⟩ := okA_ok as es kws m h3
      exact ⟨a :: is, iks, by rw [e0]; rfl, spo_cons (se1_any m h1 fun z => okE_ok a e m z) a1 (star_ok (not_t h2)), a2, by rw [List.all_cons, h2, a3]; rfl, by simp [a4], a5⟩
    | nil =>
      cases kws with
      | nil => exact no h
      | cons kw kws =>
        obtain ⟨nm, v, kp⟩ := kw
        rw [okA] at h
        obtain ⟨h1, h3⟩ := iff_and h
        obtain ⟨is, iks, e0, a1, a2, a3, a4, a5⟩ := okA_ok as [] kws m h3
        have : is = [] := List.length_eq_zero_iff.mp a4
        subst this
        exact ⟨[], a :: iks, by rw [e0]; rfl, a1, skw_cons (se1_any m h1 fun z => okE_ok a v m z) a2, rfl, rfl, by simp [a5]⟩
theorem okO_ok : ∀ (o : Option IE) {X : Cx} {E : XK} {M : MC} (e : Option Expr), MOk X T E ρ M → okO M o e = true → SO X T E e (evO ρ o)
  | none, X, E, M, e, m, h => by
    rw [okO] at h
    cases e with
    | none => exact so_none
    | some _ => exact no h
  | some a, X, E, M, e, m, h => by
    cases e with
    | none => exact no h
    | some e => exact so_some (okE_ok a e m (by rw [okO] at h; exact h))
theorem okT_ok : ∀ (t : IT) {X : Cx} {E : XK} {M : MC} (e : Expr), MOk X T E ρ M → okT M t e = true → ST X T E e (evT ρ t)
  | .lend xs t, X, E, M, e, m, h => st_lend (okT_ok t e m (by rw [okT] at h; exact h))
  | .dnot t, X, E, M, e, m, h => by
    cases e with
    | UnaryOp op x p =>
      rw [okT] at h
      obtain ⟨h, h2⟩ := iff_and h
      cases beq_iff_eq.mp h
      exact st_not (okT_ok t x m h2)
    | _ => exact no h
  | .ands ts, X, E, M, e, m, h => by
    cases e with
    | BoolOp o es p =>
      rw [okT] at h
      obtain ⟨h, h3⟩ := iff_and h
      obtain ⟨h, h2⟩ := iff_and h
      cases beq_iff_eq.mp h
      exact (okTand_ok ts es p m h2 (fun z => by subst z; exact no h3)).st.eq fun _ _ => by rw [evT]
    | _ => exact no h
  | .ors ts, X, E, M, e, m, h => by
    cases e with
    | BoolOp o es p =>
      rw [okT] at h
      obtain ⟨h, h3⟩ := iff_and h
      obtain ⟨h, h2⟩ := iff_and h
      cases beq_iff_eq.mp h
      exact (okTor_ok ts es p m h2 (fun z => by subst z; exact no h3)).st.eq fun _ _ => by rw [evT]
    | _ => exact no h
  | .val (.cmp o a b), X, E, M, e, m, h => by
    rw [okT] at h
    obtain ⟨_, h⟩ := iff_and h
    cases e with
    | Compare l ops rs p =>
      rw [okE] at h
      obtain ⟨h, h3⟩ := iff_and h
      obtain ⟨h, h2⟩ := iff_and h
      obtain ⟨r, rfl, rfl, hr⟩ := cmp1_ok h
      exact st_cmp m.c (marks_ok hr) (okE_ok a l m h2) (okE_ok b r m h3)
    | _ => exact no h
  | .val (.chain o o2 a b d), X, E, M, e, m, h => by
    rw [okT] at h
    obtain ⟨_, h⟩ := iff_and h
    cases e with
    | Compare l ops rs p =>
      rw [okE] at h
      obtain ⟨h, h4⟩ := iff_and h
      obtain ⟨h, h3⟩ := iff_and h
      obtain ⟨h, h2⟩ := iff_and h
      obtain ⟨r1, r2, rfl, rfl, hr⟩ := cmp2_ok h
      exact st_chain m.c (marks_ok hr) (okE_ok a l m h2) (okE_ok b r1 m h3) (okE_ok d r2 m h4)
    | _ => exact no h
  | .val (.lit w), X, E, M, e, m, h => by
    rw [okT] at h
    obtain ⟨h1, h2⟩ := iff_and h
    exact st_val m.c (shape_ok h1 rfl) (okE_ok (.lit w) e m h2)
  | .val (.var i), X, E, M, e, m, h => by
    rw [okT] at h
    obtain ⟨h1, h2⟩ := iff_and h
    exact st_val m.c (shape_ok h1 rfl) (okE_ok (.var i) e m h2)
  | .val (.frz i), X, E, M, e, m, h => by
    rw [okT] at h
    obtain ⟨h1, h2⟩ := iff_and h
    exact st_val m.c (shape_ok h1 rfl) (okE_ok (.frz i) e m h2)
  | .val (.mov i), X, E, M, e, m, h => by
    rw [okT] at h
    obtain ⟨h1, h2⟩ := iff_and h
    exact st_val m.c (shape_ok h1 rfl) (okE_ok (.mov i) e m h2)
  | .val (.bor i), X, E, M, e, m, h => by
    rw [okT] at h
    obtain ⟨h1, h2⟩ := iff_and h
    exact st_val m.c (shape_ok h1 rfl) (okE_ok (.bor i) e m h2)
  | .val (.lend xs a), X, E, M, e, m, h => by
    rw [okT] at h
    obtain ⟨h1, h2⟩ := iff_and h
    exact st_val m.c (shape_ok h1 rfl) (okE_ok (.lend xs a) e m h2)
  | .val (.bin o a b), X, E, M, e, m, h => by
    rw [okT] at h
    obtain ⟨h1, h2⟩ := iff_and h
    exact st_val m.c (shape_ok h1 rfl) (okE_ok (.bin o a b) e m h2)
  | .val (.neg a), X, E, M, e, m, h => by
    rw [okT] at h
    obtain ⟨h1, h2⟩ := iff_and h
    exact st_val m.c (shape_ok h1 rfl) (okE_ok (.neg a) e m h2)
  | .val (.tup as), X, E, M, e, m, h => by
    rw [okT] at h
    obtain ⟨h1, h2⟩ := iff_and h
    exact st_val m.c (shape_ok h1 rfl) (okE_ok (.tup as) e m h2)
  | .val (.lst as), X, E, M, e, m, h => by
    rw [okT] at h
    obtain ⟨h1, h2⟩ := iff_and h
    exact st_val m.c (shape_ok h1 rfl) (okE_ok (.lst as) e m h2)
  | .val (.ands as), X, E, M, e, m, h => by
    rw [okT] at h
    obtain ⟨h1, h2⟩ := iff_and h
    exact st_val m.c (shape_ok h1 rfl) (okE_ok (.ands as) e m h2)
  | .val (.ors as), X, E, M, e, m, h => by
    rw [okT] at h
    obtain ⟨h1, h2⟩ := iff_and h
    exact st_val m.c (shape_ok h1 rfl) (okE_ok (.ors as) e m h2)
  | .val (.dnot a), X, E, M, e, m, h => by
    rw [okT] at h
    obtain ⟨h1, h2⟩ := iff_and h
    exact st_val m.c (shape_ok h1 rfl) (okE_ok (.dnot a) e m h2)
  | .val (.ite t a b), X, E, M, e, m, h => by
    rw [okT] at h
    obtain ⟨h1, h2⟩ := iff_and h
    exact st_val m.c (shape_ok h1 rfl) (okE_ok (.ite t a b) e m h2)
  | .val (.blt b as), X, E, M, e, m, h => by
    rw [okT] at h
    obtain ⟨h1, h2⟩ := iff_and h
    exact st_val m.c (shape_ok h1 rfl) (okE_ok (.blt b as) e m h2)
  | .val (.isin a t), X, E, M, e, m, h => by
    rw [okT] at h
    obtain ⟨h1, h2⟩ := iff_and h
    exact st_val m.c (shape_ok h1 rfl) (okE_ok (.isin a t) e m h2)
  | .val (.lrg tp lo hi), X, E, M, e, m, h => by
    rw [okT] at h
    obtain ⟨h1, h2⟩ := iff_and h
    exact st_val m.c (shape_ok h1 rfl) (okE_ok (.lrg tp lo hi) e m h2)
  | .val (.idx a b), X, E, M, e, m, h => by
    rw [okT] at h
    obtain ⟨h1, h2⟩ := iff_and h
    exact st_val m.c (shape_ok h1 rfl) (okE_ok (.idx a b) e m h2)
  | .val (.slc a lo hi), X, E, M, e, m, h => by
    rw [okT] at h
    obtain ⟨h1, h2⟩ := iff_and h
    exact st_val m.c (shape_ok h1 rfl) (okE_ok (.slc a lo hi) e m h2)
  | .val (.fld a f), X, E, M, e, m, h => by
    rw [okT] at h
    obtain ⟨h1, h2⟩ := iff_and h
    exact st_val m.c (shape_ok h1 rfl) (okE_ok (.fld a f) e m h2)
  | .val (.call g as), X, E, M, e, m, h => by
    rw [okT] at h
    obtain ⟨h1, h2⟩ := iff_and h
    exact st_val m.c (shape_ok h1 rfl) (okE_ok (.call g as) e m h2)
  | .val (.meth c mi g r as), X, E, M, e, m, h => by
    rw [okT] at h
    obtain ⟨h1, h2⟩ := iff_and h
    exact st_val m.c (shape_ok h1 rfl) (okE_ok (.meth c mi g r as) e m h2)
  | .val (.make c g as), X, E, M, e, m, h => by
    rw [okT] at h
    obtain ⟨h1, h2⟩ := iff_and h
    exact st_val m.c (shape_ok h1 rfl) (okE_ok (.make c g as) e m h2)
  | .val (.comp own it tg is d), X, E, M, e, m, h => by
    rw [okT] at h
    obtain ⟨h1, h2⟩ := iff_and h
    exact st_val m.c (shape_ok h1 rfl) (okE_ok (.comp own it tg is d) e m h2)
  | .val (.mut i fs mm as), X, E, M, e, m, h => by
    rw [okT] at h
    obtain ⟨h1, h2⟩ := iff_and h
    exact st_val m.c (shape_ok h1 rfl) (okE_ok (.mut i fs mm as) e m h2)
  | .val (.dct0 ), X, E, M, e, m, h => by
    rw [okT] at h
    obtain ⟨h1, h2⟩ := iff_and h
    exact st_val m.c (shape_ok h1 rfl) (okE_ok (.dct0 ) e m h2)
  | .val (.dcomp own it tg is k d), X, E, M, e, m, h => by
    rw [okT] at h
    obtain ⟨h1, h2⟩ := iff_and h
    exact st_val m.c (shape_ok h1 rfl) (okE_ok (.dcomp own it tg is k d) e m h2)
  | .val (.disp tp st as), X, E, M, e, m, h => by
    rw [okT] at h
    obtain ⟨h1, h2⟩ := iff_and h
    exact st_val m.c (shape_ok h1 rfl) (okE_ok (.disp tp st as) e m h2)
  | .val (.mtd mm r as), X, E, M, e, m, h => by
    rw [okT] at h
    obtain ⟨h1, h2⟩ := iff_and h
    exact st_val m.c (shape_ok h1 rfl) (okE_ok (.mtd mm r as) e m h2)
theorem okTand_ok : ∀ (ts : List IT) {X : Cx} {E : XK} {M : MC} (es : List Expr) (p : Pos), MOk X T E ρ M → okTs M ts es = true → es ≠ [] → SW X T E (.BoolOp .And es p) (evTand ρ ts)
  | [], X, E, M, es, p, m, h, z => by
    rw [okTs] at h
    exact absurd (List.isEmpty_iff.mp h) z
  | a :: as, X, E, M, es, p, m, h, z => by
    cases es with
    | nil => exact no h
    | cons e es =>
      rw [okTs] at h
      obtain ⟨h1, h2⟩ := iff_and h
      have qa := okT_ok a e m h1
      cases es with
      | nil =>
        cases as with
        | nil => exact sw_and1 qa
        | cons b as => rw [okTs] at h2; exact no h2
      | cons d es =>
        have qr := okTand_ok as (d :: es) p m h2 (by simp)
        exact sw_and qa qr
theorem okTor_ok : ∀ (ts : List IT) {X : Cx} {E : XK} {M : MC} (es : List Expr) (p : Pos), MOk X T E ρ M → okTs M ts es = true → es ≠ [] → SW X T E (.BoolOp .Or es p) (evTor ρ ts)
  | [], X, E, M, es, p, m, h, z => by
    rw [okTs] at h
    exact absurd (List.isEmpty_iff.mp h) z
  | a :: as, X, E, M, es, p, m, h, z => by
    cases es with
    | nil => exact no h
    | cons e es =>
      rw [okTs] at h
      obtain ⟨h1, h2⟩ := iff_and h
      have qa := okT_ok a e m h1
      cases es with
      | nil =>
        cases as with
        | nil => exact sw_or1 qa
        | cons b as => rw [okTs] at h2; exact no h2
      | cons d es =>
        have qr := okTor_ok as (d :: es) p m h2 (by simp)
        exact sw_or qa qr
theorem okC_ok : ∀ (ts : List IT) {X : Cx} {E : XK} {M : MC} (es : List Expr), MOk X T E ρ M → okC M ts es = true → SC X T E es (evTand ρ ts)
  | [], X, E, M, es, m, h => by
    rw [okC] at h
    cases List.isEmpty_iff.mp h
    exact sc_nil
  | a :: as, X, E, M, es, m, h => by
    cases es with
    | nil => exact no h
    | cons e es =>
      rw [okC] at h
      obtain ⟨h, h3⟩ := iff_and h
      obtain ⟨h1, h2⟩ := iff_and h
      cases List.isEmpty_iff.mp h1
      cases List.isEmpty_iff.mp h2
      exact sc_one (okT_ok a e m h3)
theorem okI_ok : ∀ (it : It) {X : Cx} {E : XK} {M : MC} (tg e : Expr), MOk X T E ρ M → okI M it tg e = true → SI X T E tg e (evIt ρ it)
  | .val a, X, E, M, tg, e, m, h => si_val m.c (okE_ok a e m (by rw [okI] at h; exact h))
  | .rng1 a, X, E, M, tg, e, m, h => by
    cases e with
    | Call f es kws p =>
      rw [okI] at h
      obtain ⟨h, h2⟩ := iff_and h
      obtain ⟨q, d, rfl, rfl, rfl, b1, b2⟩ := it1_ok h
      obtain ⟨g1, g2⟩ := m.bltb b1
      exact si_rng1 g1 g2 (okE_ok a d m h2) (star_ok b2)
    | _ => exact no h
  | .rng2 a b, X, E, M, tg, e, m, h => by
    cases e with
    | Call f es kws p =>
      rw [okI] at h
      obtain ⟨h, h3⟩ := iff_and h
      obtain ⟨h, h2⟩ := iff_and h
      obtain ⟨q, d, f, rfl, rfl, rfl, b1, b2, b3⟩ := it2_ok h
      obtain ⟨g1, g2⟩ := m.bltb b1
      exact si_rng2 g1 g2 (okE_ok a d m h2) (okE_ok b f m h3) (by rw [star_ok b2, star_ok b3]; rfl) (star_ok b3)
    | _ => exact no h
  | .enum a, X, E, M, tg, e, m, h => by
    cases e with
    | Call f es kws p =>
      rw [okI] at h
      obtain ⟨h, h2⟩ := iff_and h
      obtain ⟨h1, h⟩ := iff_and h
      obtain ⟨t1, t2, t3, rfl⟩ := tup_ok h1
      obtain ⟨q, d, rfl, rfl, rfl, b1, b2⟩ := it1_ok h
      obtain ⟨g1, g2⟩ := m.bltb b1
      exact si_enum m.c g1 g2 (okE_ok a d m h2) (star_ok b2)
    | _ => exact no h
  | .zip a b, X, E, M, tg, e, m, h => by
    cases e with
    | Call f es kws p =>
      rw [okI] at h
      obtain ⟨h, h3⟩ := iff_and h
      obtain ⟨h, h2⟩ := iff_and h
      obtain ⟨h1, h⟩ := iff_and h
      obtain ⟨t1, t2, t3, rfl⟩ := tup_ok h1
      obtain ⟨q, d, f, rfl, rfl, rfl, b1, b2, b3⟩ := it2_ok h
      obtain ⟨g1, g2⟩ := m.bltb b1
      exact si_zip m.c g1 g2 (okE_ok a d m h2) (okE_ok b f m h3) (star_ok b2) (star_ok b3) (pl_ok (by rw [List.all_cons, b3]; rfl))
    | _ => exact no h
end
end
end VL
set_option Elab.async false
set_option linter.all false
set_option maxRecDepth 100000
set_option maxHeartbeats 4000000
namespace VL
open PySem L2
/-! ## statements -/
def swapL (sc : Scope) (ts vs : List Expr) : Option (Option (List Str)) :=
  if (!(ts.length == 2 || ts.length == 3) || vs.length != ts.length) = true then some none else
  if (vs.any fun | .Starred .. => true | _ => false) = true then some none else
  let line := (ts.head?.map (·.pos.line)).getD 0
  let names := ts.filterMap fun
    | .Name id pos => if sc.names.lookup id == some .local && pos.line == line then some id else none
    | _ => none
  if (names.length != ts.length || names.eraseDups.length != names.length) = true then some none else
  if vs.all (foldedForSure 8) = true then some none else
  if vs.all (constantsAlone 8) = true then none else some (some names)
def swapB (sc : Scope) (tg v : Expr) : Option (Option (List Str)) := match v with
  | .Tuple vs _ _ => match tg with
    | .Tuple ts _ _ => swapL sc ts vs
    | .List ts _ => swapL sc ts vs
    | _ => some none
  | _ => some none
theorem swapL_ok {env : PySem.Env} (hk : env.scope.kind = .function) {ts vs : List Expr} {k1 : Nat} {p1 : Pos} {k2 : Nat} {p2 : Pos} {r : Option (List Str)} (h : swapL env.scope ts vs = some r) : swappedStores [.Tuple ts k1 p1] (.Tuple vs k2 p2) env = pure r := by
  have hb : env.blockKind = .function := by unfold PySem.Env.blockKind; rw [hk]; rfl
  unfold swapL at h
  unfold swappedStores
  simp only [hb, bne_self_eq_false, Bool.or_false]
  split at h
  · rename_i h1
    cases h
    exact if_pos h1
  rename_i h1
  refine (if_neg h1).trans ?_
  split at h
  · rename_i h2
    cases h
    exact if_pos h2
  rename_i h2
  refine (if_neg h2).trans ?_
  dsimp only at h
  split at h
  · rename_i h3
    cases h
    exact if_pos h3
  rename_i h3
  refine (if_neg h3).trans ?_
  split at h
  · rename_i h4
    cases h
    exact if_pos h4
  rename_i h4
  refine (if_neg h4).trans ?_
  split at h
  · cases h
  rename_i h5
  cases h
  exact if_neg h5
theorem swapB_ok {env : PySem.Env} (hk : env.scope.kind = .function) {tg v : Expr} {r : Option (List Str)} (h : swapB env.scope tg v = some r) : swappedStores [tg] v env = pure r := by
  unfold swapB at h
  cases v with
  | Tuple vs k2 p2 =>
    cases tg with
    | Tuple ts k1 p1 => exact swapL_ok hk h
    | List ts p1 => exact swapL_ok (k1 := 0) (p1 := p1) (k2 := k2) (p2 := p2) hk h
    | _ => cases h; rfl
  | _ => cases h; cases tg <;> rfl
theorem sw_plain {env : PySem.Env} {v : Expr} {t : Option Expr} {l : Nat} (h : compE v = false) : swapsWith v t l env = pure false := by
  cases v <;> first | rfl | cases h
def isNameE : Expr → Bool | .Name _ _ => true | _ => false
theorem sw_tgt {env : PySem.Env} {v t : Expr} {l : Nat} (h : isNameE t = false) : swapsWith v (some t) l env = pure false := by
  cases v <;> first | rfl | (cases t <;> first | rfl | cases h)
/-- does a comprehension go straight into its name? -/
def lcB (M : MC) (x : Str) (py : Pos) (scope : Scope) (pos : Pos) : Bool := lookB M.sc x .local && py.line == pos.line && !(scope.names.any fun (n, k) => n == x && (k == .local || k == .cell))
def asgB (v : Expr) : Bool := match v with
  | .ListComp _ _ _ _ => true
  | .DictComp _ _ _ _ _ => true
  | _ => !compE v
def swapN (M : MC) (tg v : Expr) : Bool := match swapB M.sc tg v with
  | some none => true
  | _ => false
def par2B (M : MC) (i j : Nat) (tgs : List Expr) (v : Expr) : Bool := match tgs with
  | [.Tuple [.Name x px, .Name y py] kt pt] => decide (swapB M.sc (.Tuple [.Name x px, .Name y py] kt pt) v = some (some [x, y])) && M.N[i]? == some x && M.N[j]? == some y && decide (i ≠ j) && lookB M.sc x .local && lookB M.sc y .local
  | _ => false
def par3B (M : MC) (i j l : Nat) (tgs : List Expr) (v : Expr) : Bool := match tgs with
  | [.Tuple [.Name x px, .Name y py, .Name z pz] kt pt] => decide (swapB M.sc (.Tuple [.Name x px, .Name y py, .Name z pz] kt pt) v = some (some [x, y, z])) && M.N[i]? == some x && M.N[j]? == some y && M.N[l]? == some z && decide (i ≠ j) && decide (i ≠ l) && decide (j ≠ l) && lookB M.sc x .local && lookB M.sc y .local && lookB M.sc z .local
  | _ => false
def subB (M : MC) (i : Nat) (fs : List Ps) : List Expr → Option Expr
  | [.Subscript o sl _] => if pathB M i fs o && plainB sl then some sl else none
  | _ => none
mutual
def okS (M : MC) : IS → Stmt → Bool
  | .asg t e, st => match st with
    | .Assign tgs v _ => match tgs with
      | [tg] => okG M t tg && okE M e v && !isStar tg && asgB v && swapN M tg v
      | _ => false
    | _ => false
  | .setx i fs ix e, st => match st with
    | .Assign tgs v _ => match subB M i fs tgs with
      | some sl => okE M ix sl && okE M e v
      | none => false
    | _ => false
  | .par2 i j a b, st => match st with
    | .Assign tgs v _ => match v with
      | .Tuple vs _ _ => par2B M i j tgs v && vs.length == 2 && okE M a (vs.headD default) && !isStar (vs.headD default) && okE M b (vs.tail.headD default) && !isStar (vs.tail.headD default)
      | _ => false
    | _ => false
  | .par3 i j l a b c, st => match st with
    | .Assign tgs v _ => match v with
      | .Tuple vs _ _ => par3B M i j l tgs v && vs.length == 3 && okE M a (vs.headD default) && !isStar (vs.headD default) && okE M b (vs.tail.headD default) && !isStar (vs.tail.headD default) && okE M c (vs.tail.tail.headD default) && !isStar (vs.tail.tail.headD default)
      | _ => false
    | _ => false
  | .expr e, st => match st with
    | .Expr v _ => !compE v && okE M e v
    | _ => false
  | .ifs c a b, st => match st with
    | .If t x y _ => okT M c t && okSs M a x && okSs M b y
    | _ => false
  | .fors t it body, st => match st with
    | .For tg iter x y _ => y.isEmpty && !isSetE iter && okI M it tg iter && okG M t tg && okSs M body x
    | _ => false
  | .whl c body, st => match st with
    | .While t x y _ => y.isEmpty && okT M c t && okSs M body x
    | _ => false
  | .ret e, st => match st with
    | .Return (some v) _ => okE M e v
    | _ => false
  | .retn, st => match st with
    | .Return none _ => true
    | _ => false
  | .brk, st => match st with
    | .Break _ => true
    | _ => false
  | .cnt, st => match st with
    | .Continue _ => true
    | _ => false
  | .pass, st => match st with
    | .Pass _ => true
    | .Expr (.Constant (.str _) _ _) _ => true
    | _ => false
  | .bad, _ => true
  | .frz _ _, _ => false
  | .lend _ _ i, st => okS M i st
def okSs (M : MC) : List IS → List Stmt → Bool
  | [], sts => sts.isEmpty
  | i :: is, sts => match i with
    | .frz _ _ => okSs M is sts
    | _ => match sts with
      | st :: sts => okS M i st && okSs M is sts
      | [] => false
end
end VL
set_option Elab.async false
set_option linter.all false
set_option maxRecDepth 100000
set_option maxHeartbeats 4000000
namespace VL
open PySem L2
structure MOkS (X : Cx) (T : Tb) (E : XK) (ρ : Nat → Fn) (M : MC) : Prop where
  m : MOk X T E ρ M
  po : PassesOwn (PySem.model X.prog X.w) X.A X.env X.xe
  kd : X.env.scope.kind = .function
section
variable {T : Tb} {ρ : Nat → Fn} {X : Cx} {E : XK} {M : MC}
theorem map_asg {env : PySem.Env} {tg : Expr} (h : isStar tg = false) : (assignEach [tg] env).map (·.2) = [assign tg env] := by rw [asg_ok h]; rfl
theorem asg_any {t : Tg} {e : IE} {tg v : Expr} {pos : Pos} (s : MOkS X T E ρ M) (h1 : okG M t tg = true) (h2 : okE M e v = true) (h3 : isStar tg = false) (h4 : swapsWithSole [tg] v pos.line X.env = pure false) (h5 : swapB M.sc tg v = some none) : SS X T E (.Assign [tg] v pos) (fS ρ (.asg t e)) :=
  ss_asg (okE_ok e v s.m h2) (s.m.okG t tg h1) h4 (swapB_ok s.kd (by rw [s.m.sc]; exact h5)) (map_asg h3)
theorem sole_plain {env : PySem.Env} {v t : Expr} {l : Nat} (h : compE v = false) : swapsWithSole [t] v l env = pure false := (sw_plain h : swapsWith v (some t) l env = pure false)
theorem sole_tgt {env : PySem.Env} {v t : Expr} {l : Nat} (h : isNameE t = false) : swapsWithSole [t] v l env = pure false := (sw_tgt h : swapsWith v (some t) l env = pure false)
theorem lcB_no {x : Str} {py pos : Pos} {scope : Scope} {elt : Expr} {gens : List Comprehension} {l : Nat} (s : MOkS X T E ρ M) (h : lcB M x py scope pos = false) : swapsWithSole [.Name x py] (.ListComp elt gens scope pos) l X.env = pure false := by
  have hb : X.env.blockKind = .function := by unfold PySem.Env.blockKind; rw [s.kd]; rfl
  have e : swapsWithSole [.Name x py] (.ListComp elt gens scope pos) l X.env = pure (X.env.blockKind == .function && X.env.kindOf x == some .local && py.line == pos.line && !(scope.names.any fun (n, k) => n == x && (k == .local || k == .cell))) := rfl
  rw [e, hb]
  unfold lcB lookB at h
  rw [← s.m.sc] at h
  have h2 : (X.env.kindOf x == some .local && py.line == pos.line && !(scope.names.any fun (n, k) => n == x && (k == .local || k == .cell))) = false := h
  have h3 : ((NameKind.local == NameKind.local) : Bool) = true := by decide
  show pure (((ScopeKind.function == ScopeKind.function) && X.env.kindOf x == some .local && py.line == pos.line && !(scope.names.any fun (n, k) => n == x && (k == .local || k == .cell)))) = _
  rw [show (ScopeKind.function == ScopeKind.function) = true from by decide, Bool.true_and, h2]
theorem lcB_ok {x : Str} {py pos spos : Pos} {scope : Scope} {elt : Expr} {gens : List Comprehension} (s : MOkS X T E ρ M) (h : lcB M x py scope pos = true) : X.env.scope.names.lookup x = some .local ∧ swapsWith (.ListComp elt gens scope pos) (some (.Name x py)) spos.line X.env = pure true := by
  unfold lcB at h
  obtain ⟨h, h3⟩ := iff_and h
  obtain ⟨h1, h2⟩ := iff_and h
  have hl : X.env.scope.names.lookup x = some .local := by rw [s.m.sc]; exact lookB_ok h1
  exact ⟨hl, sw_true s.kd hl h2 (not_t h3)⟩
theorem lc_of : ∀ {e : IE} {elt : Expr} {gens : List Comprehension} {scope : Scope} {pos : Pos}, okE M e (.ListComp elt gens scope pos) = true → ∃ own it tg is d, LcOf own it tg is d e ∧ okE M (.comp own it tg is d) (.ListComp elt gens scope pos) = true
  | .comp own it tg is d, _, _, _, _, h => ⟨own, it, tg, is, d, .comp, h⟩
  | .lend xs a, elt, gens, scope, pos, h => by
    obtain ⟨own, it, tg, is, d, h1, h2⟩ := lc_of (e := a) (by rw [okE] at h; exact h)
    exact ⟨own, it, tg, is, d, .lend h1, h2⟩
  | .lit w, _, _, _, _, h => by rw [okE] at h; cases w <;> exact no h
  | .var _, _, _, _, _, h => no h
  | .frz _, _, _, _, _, h => no h
  | .mov _, _, _, _, _, h => no h
  | .bor _, _, _, _, _, h => no h
  | .bin _ _ _, _, _, _, _, h => no h
  | .neg _, _, _, _, _, h => no h
  | .cmp _ _ _, _, _, _, _, h => no h
  | .chain _ _ _ _ _, _, _, _, _, h => no h
  | .tup _, _, _, _, _, h => no h
  | .lst _, _, _, _, _, h => no h
  | .ands _, _, _, _, _, h => no h
  | .ors _, _, _, _, _, h => no h
  | .dnot _, _, _, _, _, h => no h
  | .ite _ _ _, _, _, _, _, h => no h
  | .blt _ _, _, _, _, _, h => no h
  | .isin _ _, _, _, _, _, h => no h
  | .lrg _ _ _, _, _, _, _, h => no h
  | .idx _ _, _, _, _, _, h => no h
  | .slc _ _ _, _, _, _, _, h => no h
  | .fld _ _, _, _, _, _, h => no h
  | .call _ _, _, _, _, _, h => no h
  | .meth _ _ _ _ _, _, _, _, _, h => no h
  | .make _ _ _, _, _, _, _, h => no h
  | .mut _ _ _ _, _, _, _, _, h => no h
  | .dcomp _ _ _ _ _ _, _, _, _, _, h => no h
  | .dct0, _, _, _, _, h => no h
  | .disp _ _ _, _, _, _, _, h => no h
  | .mtd _ _ _, _, _, _, _, h => no h
theorem asg_lc {t : Tg} {e : IE} {elt : Expr} {gens : List Comprehension} {scope : Scope} {pos py spos : Pos} {x : Str} (s : MOkS X T E ρ M) (h1 : okG M t (.Name x py) = true) (h2 : okE M e (.ListComp elt gens scope pos) = true) (h3 : lcB M x py scope pos = true) : SS X T E (.Assign [.Name x py] (.ListComp elt gens scope pos) spos) (fS ρ (.asg t e)) := by
  obtain ⟨hl, hsw⟩ := lcB_ok (elt := elt) (gens := gens) (spos := spos) s h3
  cases t with
  | tup _ => exact no h1
  | fld _ _ _ => exact no h1
  | name i =>
    rw [okG] at h1
    have hy := (iff_and h1).1
    obtain ⟨own, it, tg, is, d, lc, h⟩ := lc_of h2
    match gens, h, hsw with
    | [], h, _ => exact no h
    | ⟨_, _, _, _⟩ :: _ :: _, h, _ => exact no h
    | [⟨t, iter, ifs, asy⟩], h, hsw =>
      rw [okE] at h
      obtain ⟨h, h8⟩ := iff_and h
      obtain ⟨h, h7⟩ := iff_and h
      obtain ⟨h, h6⟩ := iff_and h
      obtain ⟨h, h5⟩ := iff_and h
      obtain ⟨h, h4⟩ := iff_and h
      obtain ⟨h, h3⟩ := iff_and h
      obtain ⟨k1, k2⟩ := iff_and h
      cases beq_iff_eq.mp k1
      have m := s.m
      have ho : (ownP M own).map (·.2) = own := by unfold ownP; rw [List.map_map]; exact List.map_id _
      exact ss_setLc (pos := pos) (py := py) (spos := spos) (elt := elt) (tg := t) (iter := iter) (ifs := ifs) (scope := scope) (own := ownP M own) (it := it) (tgw := tg) (is := is) (ie := d) m.c (by rw [ho]; exact lc) (by rw [m.N]; exact beq_iff_eq.mp hy) hl hsw (by rw [m.N, m.sc]; exact blk_ok k2) (okI_ok it t iter m h5)
        (fun s H C cl fp => (m.innr s H scope C cl fp).okG tg t h6) (fun s H C cl fp => okC_ok is ifs (m.innr s H scope C cl fp) h7) (fun s H C cl fp => okE_ok d elt (m.innr s H scope C cl fp) h8) (fold_ok (not_t h4))
        (fun i hi => by rw [ho]; exact List.contains_iff_mem.mp (List.all_eq_true.mp h3 i hi))
theorem sw_trueD {elt elt2 : Expr} {gs : List Comprehension} {scope : Scope} {pos py : Pos} {y : Str} {l : Nat} {env : PySem.Env} (hk : env.scope.kind = .function) (hy : env.scope.names.lookup y = some .local) (hl : (py.line == pos.line) = true)
    (ha : (scope.names.any fun (n, k) => n == y && (k == .local || k == .cell)) = false) : swapsWith (.DictComp elt elt2 gs scope pos) (some (.Name y py)) l env = pure true := by
  have ky : env.kindOf y = some .local := hy
  have hb : env.blockKind = .function := by unfold PySem.Env.blockKind; rw [hk]; rfl
  unfold swapsWith
  simp only [hb, ky, ha, Expr.pos, hl]
  rfl
theorem dcB_no {x : Str} {py pos : Pos} {scope : Scope} {elt elt2 : Expr} {gens : List Comprehension} {l : Nat} (s : MOkS X T E ρ M) (h : lcB M x py scope pos = false) : swapsWithSole [.Name x py] (.DictComp elt elt2 gens scope pos) l X.env = pure false := by
  have hb : X.env.blockKind = .function := by unfold PySem.Env.blockKind; rw [s.kd]; rfl
  have e : swapsWithSole [.Name x py] (.DictComp elt elt2 gens scope pos) l X.env = pure (X.env.blockKind == .function && X.env.kindOf x == some .local && py.line == pos.line && !(scope.names.any fun (n, k) => n == x && (k == .local || k == .cell))) := rfl
  rw [e, hb]
  unfold lcB lookB at h
  rw [← s.m.sc] at h
  have h2 : (X.env.kindOf x == some .local && py.line == pos.line && !(scope.names.any fun (n, k) => n == x && (k == .local || k == .cell))) = false := h
  have h3 : ((NameKind.local == NameKind.local) : Bool) = true := by decide
  show pure (((ScopeKind.function == ScopeKind.function) && X.env.kindOf x == some .local && py.line == pos.line && !(scope.names.any fun (n, k) => n == x && (k == .local || k == .cell)))) = _
  rw [show (ScopeKind.function == ScopeKind.function) = true from by decide, Bool.true_and, h2]
theorem dcB_ok {x : Str} {py pos spos : Pos} {scope : Scope} {elt elt2 : Expr} {gens : List Comprehension} (s : MOkS X T E ρ M) (h : lcB M x py scope pos = true) : X.env.scope.names.lookup x = some .local ∧ swapsWith (.DictComp elt elt2 gens scope pos) (some (.Name x py)) spos.line X.env = pure true := by
  unfold lcB at h
  obtain ⟨h, h3⟩ := iff_and h
  obtain ⟨h1, h2⟩ := iff_and h
  have hl : X.env.scope.names.lookup x = some .local := by rw [s.m.sc]; exact lookB_ok h1
  exact ⟨hl, sw_trueD s.kd hl h2 (not_t h3)⟩
theorem dc_of : ∀ {e : IE} {elt elt2 : Expr} {gens : List Comprehension} {scope : Scope} {pos : Pos}, okE M e (.DictComp elt elt2 gens scope pos) = true → ∃ own it tg is k d, DcOf own it tg is k d e ∧ okE M (.dcomp own it tg is k d) (.DictComp elt elt2 gens scope pos) = true
  | .dcomp own it tg is k d, _, _, _, _, _, h => ⟨own, it, tg, is, k, d, .comp, h⟩
  | .lend xs a, elt, elt2, gens, scope, pos, h => by
    obtain ⟨own, it, tg, is, k, d, h1, h2⟩ := dc_of (e := a) (by rw [okE] at h; exact h)
    exact ⟨own, it, tg, is, k, d, .lend h1, h2⟩
  | .lit w, _, _, _, _, _, h => by rw [okE] at h; cases w <;> exact no h
  | .var _, _, _, _, _, _, h => no h
  | .frz _, _, _, _, _, _, h => no h
  | .mov _, _, _, _, _, _, h => no h
  | .bor _, _, _, _, _, _, h => no h
  | .bin _ _ _, _, _, _, _, _, h => no h
  | .neg _, _, _, _, _, _, h => no h
  | .cmp _ _ _, _, _, _, _, _, h => no h
  | .chain _ _ _ _ _, _, _, _, _, _, h => no h
  | .tup _, _, _, _, _, _, h => no h
  | .lst _, _, _, _, _, _, h => no h
  | .ands _, _, _, _, _, _, h => no h
  | .ors _, _, _, _, _, _, h => no h
  | .dnot _, _, _, _, _, _, h => no h
  | .ite _ _ _, _, _, _, _, _, h => no h
  | .blt _ _, _, _, _, _, _, h => no h
  | .isin _ _, _, _, _, _, _, h => no h
  | .lrg _ _ _, _, _, _, _, _, h => no h
  | .idx _ _, _, _, _, _, _, h => no h
  | .slc _ _ _, _, _, _, _, _, h => no h
  | .fld _ _, _, _, _, _, _, h => no h
  | .call _ _, _, _, _, _, _, h => no h
  | .meth _ _ _ _ _, _, _, _, _, _, h => no h
  | .make _ _ _, _, _, _, _, _, h => no h
  | .mut _ _ _ _, _, _, _, _, _, h => no h
  | .comp _ _ _ _ _, _, _, _, _, _, h => no h
  | .dct0, _, _, _, _, _, h => no h
  | .disp _ _ _, _, _, _, _, _, h => no h
  | .mtd _ _ _, _, _, _, _, _, h => no h
theorem asg_dc {t : Tg} {e : IE} {elt elt2 : Expr} {gens : List Comprehension} {scope : Scope} {pos py spos : Pos} {x : Str} (s : MOkS X T E ρ M) (h1 : okG M t (.Name x py) = true) (h2 : okE M e (.DictComp elt elt2 gens scope pos) = true) (h3 : lcB M x py scope pos = true) : SS X T E (.Assign [.Name x py] (.DictComp elt elt2 gens scope pos) spos) (fS ρ (.asg t e)) := by
  obtain ⟨hl, hsw⟩ := dcB_ok (elt := elt) (elt2 := elt2) (gens := gens) (spos := spos) s h3
  cases t with
  | tup _ => exact no h1
  | fld _ _ _ => exact no h1
  | name i =>
    rw [okG] at h1
    have hy := (iff_and h1).1
    obtain ⟨own, it, tg, is, k, d, lc, h⟩ := dc_of h2
    match gens, h, hsw with
    | [], h, _ => exact no h
    | ⟨_, _, _, _⟩ :: _ :: _, h, _ => exact no h
    | [⟨t, iter, ifs, asy⟩], h, hsw =>
      rw [okE] at h
      obtain ⟨h, h9⟩ := iff_and h
      obtain ⟨h, h8⟩ := iff_and h
      obtain ⟨h, h7⟩ := iff_and h
      obtain ⟨h, h6⟩ := iff_and h
      obtain ⟨h, h5⟩ := iff_and h
      obtain ⟨h, h4⟩ := iff_and h
      obtain ⟨h, h3⟩ := iff_and h
      obtain ⟨k1, k2⟩ := iff_and h
      cases beq_iff_eq.mp k1
      have m := s.m
      have ho : (ownP M own).map (·.2) = own := by unfold ownP; rw [List.map_map]; exact List.map_id _
      exact ss_setDc (pos := pos) (py := py) (spos := spos) (kx := elt) (vx := elt2) (tg := t) (iter := iter) (ifs := ifs) (scope := scope) (own := ownP M own) (it := it) (tgw := tg) (is := is) (ik := k) (ie := d) m.c (by rw [ho]; exact lc) (by rw [m.N]; exact beq_iff_eq.mp hy) hl hsw (by rw [m.N, m.sc]; exact blk_ok k2) (okI_ok it t iter m h5)
        (fun s H C cl fp => (m.innr s H scope C cl fp).okG tg t h6) (fun s H C cl fp => okC_ok is ifs (m.innr s H scope C cl fp) h7) (fun s H C cl fp => okE_ok k elt (m.innr s H scope C cl fp) h8) (fun s H C cl fp => okE_ok d elt2 (m.innr s H scope C cl fp) h9) (fold_ok (not_t h4))
        (fun i hi => by rw [ho]; exact List.contains_iff_mem.mp (List.all_eq_true.mp h3 i hi))
theorem asg_ss {t : Tg} {e : IE} {tgs : List Expr} {v : Expr} {pos : Pos} (s : MOkS X T E ρ M) (h : okS M (.asg t e) (.Assign tgs v pos) = true) : SS X T E (.Assign tgs v pos) (fS ρ (.asg t e)) := by
  match tgs, h with
  | [], h => exact no h
  | _ :: _ :: _, h => exact no h
  | [tg], h =>
    rw [okS] at h
    obtain ⟨h, h5⟩ := iff_and h
    obtain ⟨h, h4⟩ := iff_and h
    obtain ⟨h, h3⟩ := iff_and h
    obtain ⟨h1, h2⟩ := iff_and h
    have h5' : swapB M.sc tg v = some none := by
      unfold swapN at h5
      split at h5
      · assumption
      · exact no h5
    by_cases hc : compE v = true
    · cases v with
      | ListComp elt gens scope p =>
        by_cases hn : isNameE tg = true
        · cases tg with
          | Name x py =>
            cases hl : lcB M x py scope p with
            | true => exact asg_lc s h1 h2 hl
            | false => exact asg_any s h1 h2 (not_t h3) (lcB_no s hl) h5'
          | _ => exact no hn
        · exact asg_any s h1 h2 (not_t h3) (sole_tgt (by simpa using hn)) h5'
      | SetComp _ _ _ _ => exact no h4
      | DictComp kx vx gens scope p =>
        by_cases hn : isNameE tg = true
        · cases tg with
          | Name x py =>
            cases hl : lcB M x py scope p with
            | true => exact asg_dc s h1 h2 hl
            | false => exact asg_any s h1 h2 (not_t h3) (dcB_no s hl) h5'
          | _ => exact no hn
        · exact asg_any s h1 h2 (not_t h3) (sole_tgt (by simpa using hn)) h5'
      | _ => exact no hc
    · exact asg_any s h1 h2 (not_t h3) (sole_plain (by simpa using hc)) h5'
theorem setx_ss {i : Nat} {fs : List Ps} {ix e : IE} {tgs : List Expr} {v : Expr} {pos : Pos} (s : MOkS X T E ρ M) (h : okS M (.setx i fs ix e) (.Assign tgs v pos) = true) : SS X T E (.Assign tgs v pos) (fS ρ (.setx i fs ix e)) := by
  have h : (match subB M i fs tgs with | some sl => okE M ix sl && okE M e v | none => false) = true := h
  cases hq : subB M i fs tgs with
  | none => rw [hq] at h; exact no h
  | some sl =>
    rw [hq] at h
    obtain ⟨h3, h4⟩ := iff_and h
    unfold subB at hq
    split at hq
    · rename_i o sl' p
      split at hq
      · rename_i hc
        cases hq
        obtain ⟨h1, h2⟩ := iff_and hc
        have hs := sole_tgt (env := X.env) (v := v) (t := .Subscript o sl p) (l := pos.line) rfl
        refine ss_setx s.m.c (s.m.path h1) (okE_ok ix sl s.m h3) (okE_ok e v s.m h4) (fun _ => by cases sl <;> first | rfl | exact no h2) hs ?_ rfl
        cases v <;> rfl
      · cases hq
    · cases hq
theorem par2B_ok {i j : Nat} {tgs : List Expr} {v : Expr} (h : par2B M i j tgs v = true) : ∃ x px y py kt pt, tgs = [.Tuple [.Name x px, .Name y py] kt pt] ∧ swapB M.sc (.Tuple [.Name x px, .Name y py] kt pt) v = some (some [x, y]) ∧ M.N[i]? = some x ∧ M.N[j]? = some y ∧ i ≠ j ∧ lookB M.sc x .local = true ∧ lookB M.sc y .local = true := by
  unfold par2B at h
  split at h
  · obtain ⟨h, g6⟩ := iff_and h
    obtain ⟨h, g5⟩ := iff_and h
    obtain ⟨h, g4⟩ := iff_and h
    obtain ⟨h, g3⟩ := iff_and h
    obtain ⟨g1, g2⟩ := iff_and h
    exact ⟨_, _, _, _, _, _, rfl, of_decide_eq_true g1, beq_iff_eq.mp g2, beq_iff_eq.mp g3, of_decide_eq_true g4, g5, g6⟩
  · exact no h
theorem par3B_ok {i j l : Nat} {tgs : List Expr} {v : Expr} (h : par3B M i j l tgs v = true) : ∃ x px y py z pz kt pt, tgs = [.Tuple [.Name x px, .Name y py, .Name z pz] kt pt] ∧ swapB M.sc (.Tuple [.Name x px, .Name y py, .Name z pz] kt pt) v = some (some [x, y, z]) ∧ M.N[i]? = some x ∧ M.N[j]? = some y ∧ M.N[l]? = some z ∧ i ≠ j ∧ i ≠ l ∧ j ≠ l ∧
    lookB M.sc x .local = true ∧ lookB M.sc y .local = true ∧ lookB M.sc z .local = true := by
  unfold par3B at h
  split at h
  · obtain ⟨h, g10⟩ := iff_and h
    obtain ⟨h, g9⟩ := iff_and h
    obtain ⟨h, g8⟩ := iff_and h
    obtain ⟨h, g7⟩ := iff_and h
    obtain ⟨h, g6⟩ := iff_and h
    obtain ⟨h, g5⟩ := iff_and h
    obtain ⟨h, g4⟩ := iff_and h
    obtain ⟨h, g3⟩ := iff_and h
    obtain ⟨g1, g2⟩ := iff_and h
    exact ⟨_, _, _, _, _, _, _, _, rfl, of_decide_eq_true g1, beq_iff_eq.mp g2, beq_iff_eq.mp g3, beq_iff_eq.mp g4, of_decide_eq_true g5, of_decide_eq_true g6, of_decide_eq_true g7, g8, g9, g10⟩
  · exact no h
theorem two_of {vs : List Expr} (h : (vs.length == 2) = true) : ∃ a b, vs = [a, b] := by
  match vs, h with
  | [a, b], _ => exact ⟨a, b, rfl⟩
theorem three_of {vs : List Expr} (h : (vs.length == 3) = true) : ∃ a b c, vs = [a, b, c] := by
  match vs, h with
  | [a, b, c], _ => exact ⟨a, b, c, rfl⟩
theorem par2_ss {i j : Nat} {a b : IE} {tgs : List Expr} {v : Expr} {pos : Pos} (s : MOkS X T E ρ M) (h : okS M (.par2 i j a b) (.Assign tgs v pos) = true) : SS X T E (.Assign tgs v pos) (fS ρ (.par2 i j a b)) := by
  cases v with
  | Tuple vs k2 p2 =>
    rw [okS] at h
    obtain ⟨h, h6⟩ := iff_and h
    obtain ⟨h, h5⟩ := iff_and h
    obtain ⟨h, h4⟩ := iff_and h
    obtain ⟨h, h3⟩ := iff_and h
    obtain ⟨h1, h2⟩ := iff_and h
    obtain ⟨va, vb, rfl⟩ := two_of h2
    obtain ⟨x, px, y, py, kt, pt, rfl, g1, g2, g3, g4, g5, g6⟩ := par2B_ok h1
    exact ss_par2 s.m.c (by rw [s.m.N]; exact g2) (by rw [s.m.N]; exact g3) g4 (by rw [s.m.sc]; exact lookB_ok g5) (by rw [s.m.sc]; exact lookB_ok g6)
      (sa_cons (okE_ok a va s.m h3) (sa_cons (okE_ok b vb s.m h5) sa_nil (star_ok (not_t h6))) (star_ok (not_t h4))) (swapB_ok s.kd (by rw [s.m.sc]; exact g1)) (sole_plain rfl)
  | _ => exact no h
theorem par3_ss {i j l : Nat} {a b c : IE} {tgs : List Expr} {v : Expr} {pos : Pos} (s : MOkS X T E ρ M) (h : okS M (.par3 i j l a b c) (.Assign tgs v pos) = true) : SS X T E (.Assign tgs v pos) (fS ρ (.par3 i j l a b c)) := by
  cases v with
  | Tuple vs k2 p2 =>
    rw [okS] at h
    obtain ⟨h, h8⟩ := iff_and h
    obtain ⟨h, h7⟩ := iff_and h
    obtain ⟨h, h6⟩ := iff_and h
    obtain ⟨h, h5⟩ := iff_and h
    obtain ⟨h, h4⟩ := iff_and h
    obtain ⟨h, h3⟩ := iff_and h
    obtain ⟨h1, h2⟩ := iff_and h
    obtain ⟨va, vb, vc, rfl⟩ := three_of h2
    obtain ⟨x, px, y, py, z, pz, kt, pt, rfl, g1, g2, g3, g4, g5, g6, g7, g8, g9, g10⟩ := par3B_ok h1
    exact ss_par3 s.m.c (by rw [s.m.N]; exact g2) (by rw [s.m.N]; exact g3) (by rw [s.m.N]; exact g4) g5 g6 g7 (by rw [s.m.sc]; exact lookB_ok g8) (by rw [s.m.sc]; exact lookB_ok g9) (by rw [s.m.sc]; exact lookB_ok g10)
      (sa_cons (okE_ok a va s.m h3) (sa_cons (okE_ok b vb s.m h5) (sa_cons (okE_ok c vc s.m h7) sa_nil (star_ok (not_t h8))) (star_ok (not_t h6))) (star_ok (not_t h4))) (swapB_ok s.kd (by rw [s.m.sc]; exact g1)) (sole_plain rfl)
  | _ => exact no h
mutual
theorem okS_ok (s : MOkS X T E ρ M) : ∀ (i : IS) (st : Stmt), okS M i st = true → SS X T E st (fS ρ i)
  | .asg t e, st, h => by
    cases st with
    | Assign tgs v p => exact asg_ss s h
    | _ => exact no h
  | .setx i fs ix e, st, h => by
    cases st with
    | Assign tgs v p => exact setx_ss s h
    | _ => exact no h
  | .par2 i j a b, st, h => by
    cases st with
    | Assign tgs v p => exact par2_ss s h
    | _ => exact no h
  | .par3 i j l a b c, st, h => by
    cases st with
    | Assign tgs v p => exact par3_ss s h
    | _ => exact no h
  | .expr e, st, h => by
    cases st with
    | Expr v p =>
      rw [okS] at h
      obtain ⟨h1, h2⟩ := iff_and h
      exact ss_expr (okE_ok e v s.m h2) (sw_plain (not_t h1))
    | _ => exact no h
  | .ifs c a b, st, h => by
    cases st with
    | If t x y p =>
      rw [okS] at h
      obtain ⟨h, h3⟩ := iff_and h
      obtain ⟨h1, h2⟩ := iff_and h
      exact ss_ifs (okT_ok c t s.m h1) (okSs_ok s a x h2) (okSs_ok s b y h3)
    | _ => exact no h
  | .fors t it body, st, h => by
    cases st with
    | For tg iter x y p =>
      rw [okS] at h
      obtain ⟨h, h5⟩ := iff_and h
      obtain ⟨h, h4⟩ := iff_and h
      obtain ⟨h, h3⟩ := iff_and h
      obtain ⟨h1, h2⟩ := iff_and h
      cases List.isEmpty_iff.mp h1
      exact ss_fors s.m.c s.po (okI_ok it tg iter s.m h3) (s.m.okG t tg h4) (okSs_ok s body x h5) (fold_ok (not_t h2))
    | _ => exact no h
  | .whl c body, st, h => by
    cases st with
    | While t x y p =>
      rw [okS] at h
      obtain ⟨h, h3⟩ := iff_and h
      obtain ⟨h1, h2⟩ := iff_and h
      cases List.isEmpty_iff.mp h1
      exact ss_whl s.po (okT_ok c t s.m h2) (okSs_ok s body x h3)
    | _ => exact no h
  | .ret e, st, h => by
    cases st with
    | Return o p =>
      cases o with
      | some v => exact ss_ret (okE_ok e v s.m (by rw [okS] at h; exact h))
      | none => exact no h
    | _ => exact no h
  | .retn, st, h => by
    cases st with
    | Return o p =>
      cases o with
      | some v => exact no h
      | none => exact ss_retn
    | _ => exact no h
  | .brk, st, h => by
    cases st with
    | Break p => exact ss_brk
    | _ => exact no h
  | .cnt, st, h => by
    cases st with
    | Continue p => exact ss_cnt
    | _ => exact no h
  | .pass, st, h => by
    cases st with
    | Pass p => exact ss_pass
    | Expr v p =>
      cases v with
      | Constant c k q =>
        cases c with
        | str x => exact ss_doc
        | _ => exact no h
      | _ => exact no h
    | _ => exact no h
  | .bad, st, h => ss_bad
  | .frz _ _, st, h => no (by rw [okS] at h; exact h)
  | .lend xs ks i, st, h => ss_lend (okS_ok s i st (by rw [okS] at h; exact h))
theorem okSs_ok (s : MOkS X T E ρ M) : ∀ (is : List IS) (sts : List Stmt), okSs M is sts = true → SSs X T E sts (fSs ρ is)
  | [], sts, h => by
    rw [okSs] at h
    cases List.isEmpty_iff.mp h
    exact ss_nil
  | i :: is, sts, h => by
    by_cases hf : ∃ k fs, i = .frz k fs
    · obtain ⟨k, fs, rfl⟩ := hf
      rw [okSs] at h
      exact ss_frz (okSs_ok s is sts h)
    · cases sts with
      | nil => cases i <;> first | exact no h | exact absurd ⟨_, _, rfl⟩ hf
      | cons st sts =>
        have h' : (okS M i st && okSs M is sts) = true := by
          cases i <;> first | exact h | exact absurd ⟨_, _, rfl⟩ hf
        obtain ⟨h1, h2⟩ := iff_and h'
        exact ss_cons (okS_ok s i st h1) (okSs_ok s is sts h2)
end
end
end VL
set_option Elab.async false
set_option linter.all false
set_option maxRecDepth 100000
set_option maxHeartbeats 4000000
namespace VL
open PySem L2
open PyProof.Rows (envOfC)
/-! ## a program's defs, one after another -/
def badFn : Fn := ⟨[], fun _ => .bad⟩
def tab (l : List Fn) (i : Nat) : Fn := l.getD i badFn
/-- a def called by keywords: pm says which argument each parameter gets; what nobody changes alone -/
def kwFn (n : Nat) (pm : List Nat) (F : Fn) : Fn := ⟨List.replicate n .own, fun us => if hasL Fl.isMut us then .bad else match F.run (pm.map fun j => us.getD j .non) with
  | .ok w _ => .ok w (List.replicate n none)
  | .ex c w _ => .ex c w (List.replicate n none)
  | .bad => .bad⟩
section
variable {P : Program} {w : World} {K : PySem.W.Frag} {mg : Str → Option Value} {base : Heap} {T : Tb}
/-- callable wherever there is room -/
def ItemOk (P : Program) (w : World) (K : PySem.W.Frag) (mg : Str → Option Value) (base : Heap) (T : Tb) (k : Nat) (F : Fn) (fi : FI) : Prop :=
  ∀ (X : Cx) (E : XK), X.prog = P → X.w = w → X.K = K → X.mg = mg → X.base = base → Room k X.A → X.A.guards = some [] → Passes (CX P w) X E → FOk X T E F fi
theorem ItemOk.mono {j k : Nat} {F : Fn} {fi : FI} (h : ItemOk P w K mg base T j F fi) (l : j ≤ k) : ItemOk P w K mg base T k F fi := fun X E a b c d e r => h X E a b c d e (r.mono l)
def ItemsOk (P : Program) (w : World) (K : PySem.W.Frag) (mg : Str → Option Value) (base : Heap) (T : Tb) (k : Nat) : List Fn → List FI → Prop
  | [], [] => True
  | F :: Fs, fi :: fis => ItemOk P w K mg base T k F fi ∧ ItemsOk P w K mg base T k Fs fis
  | _, _ => False
theorem ItemsOk.mono {j k : Nat} (l : j ≤ k) : ∀ {Fs : List Fn} {fis : List FI}, ItemsOk P w K mg base T j Fs fis → ItemsOk P w K mg base T k Fs fis
  | [], [], h => h
  | _ :: _, _ :: _, h => ⟨h.1.mono l, h.2.mono l⟩
  | [], _ :: _, h => h
  | _ :: _, [], h => h
theorem ItemsOk.app {k : Nat} : ∀ {Fs Gs : List Fn} {fis gis : List FI}, ItemsOk P w K mg base T k Fs fis → ItemsOk P w K mg base T k Gs gis → ItemsOk P w K mg base T k (Fs ++ Gs) (fis ++ gis)
  | [], _, [], _, _, g => g
  | _ :: _, _, _ :: _, _, h, g => ⟨h.1, h.2.app g⟩
  | [], _, _ :: _, _, h, _ => h.elim
  | _ :: _, _, [], _, h, _ => h.elim
theorem ItemsOk.at_ {k : Nat} : ∀ {Fs : List Fn} {fis : List FI} {f : Nat} {fi : FI}, ItemsOk P w K mg base T k Fs fis → fis[f]? = some fi → ItemOk P w K mg base T k (tab Fs f) fi
  | _ :: _, _ :: _, 0, _, h, e => by
    cases (show some _ = some _ from e)
    exact h.1
  | F :: Fs, _ :: fis, f + 1, fi, h, e => by
    have := h.2.at_ (f := f) (fi := fi) (by simpa using e)
    show ItemOk P w K mg base T k (tab (F :: Fs) (f + 1)) fi
    unfold tab
    rw [List.getD_cons_succ]
    exact this
  | [], [], _, _, _, e => by simp at e
  | [], _ :: _, _, _, h, _ => h.elim
  | _ :: _, [], _, _, h, _ => h.elim
theorem item_fn {k n : Nat} {F : Fn} {fa : Addr} {fd : FuncData} {ps : List Str} {x : Str} (G : ∀ base, FnG P w K mg base (CX P w) k fa fd ps (spF T F)) (hm : mg x = some (.ref fa)) (hk : PySem.W.keepIn K (.ref fa) = true) (hb : ∀ us : List Value, us.length = n → bindArgs fd ⟨us, []⟩ = pure (ps.zip us)) :
    ItemOk P w K mg base T k F (.fn x n []) := by
  rintro X E rfl rfl rfl rfl rfl hr ga hx
  exact ⟨fa, hm, hk, cf_pos (G _) hr ga hx hb⟩
theorem item_mt {k n c mi : Nat} {F : Fn} {fa : Addr} {fd : FuncData} {ps : List Str} (G : ∀ base, FnG P w K mg base (CX P w) k fa fd ps (spF T F)) (hc : Cls K (T.cl c)) (hm : Meth K (T.cl c) (T.nm mi) fa) (hb : ∀ us : List Value, us.length = n + 1 → bindArgs fd ⟨us, []⟩ = pure (ps.zip us)) :
    ItemOk P w K mg base T k F (.mt c mi n) := by
  rintro X E rfl rfl rfl rfl rfl hr ga hx
  exact ⟨fa, hc, hm, cf_pos (G _) hr ga hx hb⟩
theorem item_mk {k n c : Nat} {F : Fn} {fa : Addr} {fd : FuncData} {ps : List Str} {x : Str} (G : ∀ base, FnG P w K mg base (CX P w) k fa fd ps (spF T F)) (M : Mk K (T.cl c) fa) (hm : mg x = some (.ref (T.cl c))) (hb : ∀ us : List Value, us.length = n + 1 → bindArgs fd ⟨us, []⟩ = pure (ps.zip us)) :
    ItemOk P w K mg base T (k + 1) F (.mk c x n []) := by
  rintro X E rfl rfl rfl rfl rfl hr ga hx
  exact ⟨hm, M.kp, cm_pos M (G _) hr ga hx hb⟩
theorem item_gv {k : Nat} {x : Str} {v : V} {w0 : W} {u : Value} (hm : mg x = some u) (r : RelV v u) (hr : ∀ Z L g, Rep T Z L g w0 v) : ItemOk P w K mg base T k ⟨[], fun _ => .ok w0 []⟩ (.gv x) := by
  rintro X E rfl rfl rfl rfl rfl _ _ _
  exact ⟨v, w0, u, rfl, hm, r, hr⟩
/-- what all defs of a text share -/
structure Sh (K : PySem.W.Frag) (mg : Str → Option Value) (T : Tb) (M : MC) : Prop where
  kk : T.K = K
  fld : ∀ c f, f < T.nF → Cls K (T.cl c) ∧ NoAttr K (T.cl c) (T.nm f)
  nm : ∀ i x, M.nm[i]? = some x → T.nm i = x
  nF : T.nF = M.nF
  blt : ∀ x, M.blt.contains x = true → mg x = none
theorem pass_no {X : Cx} : Passes (CX P w) X X0 := fun _ _ _ _ _ _ _ h => by
  obtain ⟨_, _, _, _, _, _, _, _, _, _, _, _, z⟩ := h
  exact (show False from z).elim
/-- THE RULE for a def: the checker's word on its body -/
theorem def_ok {x qual : Str} {st0 : Stmt} {f : Addr} {fd : FuncData} {N ps : List Str} {md : List Md} {body : List IS} {k : Nat} {M : MC} {Fs : List Fn} (F : Fun K x qual st0 f fd) (S : FnScope N ps (defScope st0)) (hmd : md.length = ps.length) (sh : Sh K mg T M)
    (hN : M.N = N) (hsc : M.sc = defScope st0) (items : ∀ base, ItemsOk P w K mg base T k Fs M.fns) (chk : okSs M body (defBody st0) = true) (base : Heap) : FnG P w K mg base (CX P w) (k + 1) f fd ps (spF T ⟨md, runDef (tab Fs) md N.length body⟩) := by
  refine fnG_of F S hmd fun cdv A fr st H E hr ga => ?_
  have pa : Passes (CX P w) (cxOf (CX P w) P w K mg base N qual (defScope st0) f cdv A fr st H E) E := passes_call (takes_of rfl rfl rfl rfl) fun _ _ _ _ h => h
  have gd : (A.deeper (envOfC qual (defScope st0) st.heap.objs.size f cdv)).guards = some [] := ga
  have c : Ctx (cxOf (CX P w) P w K mg base N qual (defScope st0) f cdv A fr st H E) T := ⟨sh.kk.symm, rfl, S.nd, hr.units, (show (A.deeper (envOfC qual (defScope st0) st.heap.objs.size f cdv)).units + 128 < cLine from by have := hr.un; omega), gd, sh.fld⟩
  refine okSs_ok (M := M) ⟨⟨c, hN.symm, hsc.symm, (fun _ _ => rfl), sh.nm, sh.nF, fun g fi hg => ?_, fun s' H' sc' ce' fp' g fi hg => ?_, sh.blt⟩, passes_of rfl, S.kind⟩ body (defBody st0) chk
  · exact (items base).at_ hg _ _ rfl rfl rfl rfl rfl hr gd pa
  · exact (items base).at_ hg _ _ rfl rfl rfl rfl rfl hr gd pass_no
/-- the law's promise, from its evaluator's word -/
theorem law_sp {F : Fn} {n : Nat} (hm : F.md = [.own]) (h : ∀ ns : List Int, ns.length ≤ n → ∃ bs, F.run [.lst .frz (ns.map W.int)] = .ok (.bl true) bs) (H : Hp) (a : Addr) (ns : List Int) (hl : ns.length ≤ n) (hr : Rd H a (.lst (ns.map V.int))) :
    spF T F [.ref a] H (fun v _ => v = .bl true) fun _ _ _ => False := by
  obtain ⟨bs, hb⟩ := h ns hl
  have rep : Rep T H emp emp (.lst .frz (ns.map W.int)) (.ref a) := .lst (m := .frz) (hc := emp) hr ⟨.emp _, fun _ => rfl⟩ rfl (reps_ints ns)
  refine ⟨[.lst .frz (ns.map W.int)], ⟨H, emp, H⟩, emp, rfl, ⟨.refl _, .emp _, .emp _, .emp' _, .emp _, .emp _⟩, by rw [hm]; rfl, by rw [hm]; rfl, ?_, ?_, ?_⟩
  · rw [hm]; exact .non .nil
  · rw [hm]; exact .som rep .nil (.refl _) (.refl _) (.emp _)
  · rw [hb]
    exact fun v s' t _ _ r => by cases r; rfl
theorem cx_no (P : Program) (w : World) (H : Hp) (st : Shared) (e : Value) (s2 : Shared) (h : CX P w [] H st (fun _ _ _ => False) e s2) : False := by
  obtain ⟨_, _, _, _, _, _, _, _, _, _, _, _, z⟩ := h
  exact z
end
end VL
set_option Elab.async false
set_option linter.all false
set_option maxRecDepth 100000
set_option maxHeartbeats 4000000
namespace VL
open PySem L2
section
variable {P : Program} {w : World} {K : PySem.W.Frag} {mg : Str → Option Value} {base : Heap} {T : Tb} {Z L : Hp}
/-! ## keywords -/
theorem envR_nons {Z L h : Hp} : ∀ (σ : St), EnvR T Z L h (List.replicate σ.length none) σ
  | [] => .nil
  | _ :: σ => .non (envR_nons σ)
theorem own_env : ∀ {us : List W} {n : Nat}, us.length = n → envOf (List.replicate n .own) us = us.map some
  | [], 0, _ => rfl
  | [], _ + 1, h => by simp at h
  | _ :: _, 0, h => by simp at h
  | u :: us, n + 1, h => by
    rw [List.replicate_succ]
    show some u :: envOf _ us = _
    rw [own_env (by simpa using h)]
    rfl
theorem hasL_at : ∀ {us : List W} {j : Nat} {w : W}, hasL Fl.isMut us = false → us[j]? = some w → w.has Fl.isMut = false
  | [], _, _, _, e => by simp at e
  | u :: us, 0, w, h, e => by
    cases (show some u = some w from e)
    rw [hasL] at h
    exact (or_false' h).1
  | u :: us, j + 1, w, h, e => by
    rw [hasL] at h
    exact hasL_at (or_false' h).2 (by simpa using e)
theorem envR_at {h : Hp} {us : List W} {vs : List V} (e : EnvR T Z emp h (us.map some) (vs.map some)) (hm : hasL Fl.isMut us = false) {j : Nat} {w : W} (hj : us[j]? = some w) : ∃ v, vs[j]? = some v ∧ ∀ L, Rep T Z L emp w v := by
  obtain ⟨v, h1, r⟩ := e.get (i := j) (w := w) (by rw [List.getElem?_map, hj]; rfl)
  rw [List.getElem?_map] at h1
  cases q : vs[j]? with
  | none => rw [q] at h1; cases h1
  | some v' =>
    rw [q] at h1
    have hv : v' = v := Option.some.inj (Option.some.inj h1)
    subst hv
    exact ⟨v', rfl, fun L => (r.bare (has_le w (hasL_at hm hj)).1).any⟩
/-- values that nobody changes, handed over in any way -/
inductive Flat (T : Tb) (Z : Hp) : List W → List V → Prop where
  | nil : Flat T Z [] []
  | cons {w v ws vs} : (∀ L, Rep T Z L emp w v) → Flat T Z ws vs → Flat T Z (w :: ws) (v :: vs)
theorem Flat.env {L : Hp} : ∀ {md : List Md} {ws : List W} {vs : List V}, Flat T Z ws vs → ws.length = md.length → EnvR T Z L emp (roOf md ws) (vs.map some) ∧ EnvR T Z emp emp (envOf md ws) (vs.map some)
  | [], _, _, .nil, _ => ⟨.nil, .nil⟩
  | [], _, _, .cons _ _, h => by simp at h
  | _ :: _, _, _, .nil, h => by simp at h
  | m :: md, _, _, .cons r t, h => by
    obtain ⟨a, b⟩ := t.env (L := L) (md := md) (by simpa using h)
    cases m with
    | lent => exact ⟨.som (r L) a (.refl _) (.refl _) (.emp _), .non b⟩
    | bor => exact ⟨.non a, .som (r emp) b (.refl _) (.refl _) (.emp _)⟩
    | own => exact ⟨.non a, .som (r emp) b (.refl _) (.refl _) (.emp _)⟩
theorem flat_pm {h : Hp} {us : List W} {vs : List V} (e : EnvR T Z emp h (us.map some) (vs.map some)) (hm : hasL Fl.isMut us = false) : ∀ (pm : List Nat), (pm.all fun j => decide (j < us.length)) = true → Flat T Z (pm.map fun j => us.getD j .non) (pm.map fun j => vs.getD j .non)
  | [], _ => .nil
  | j :: pm, hp => by
    rw [List.all_cons] at hp
    obtain ⟨h1, h2⟩ := iff_and hp
    have lt := of_decide_eq_true h1
    have hj : us[j]? = some us[j] := List.getElem?_eq_getElem lt
    obtain ⟨v, hv, r⟩ := envR_at e hm hj
    refine .cons ?_ (flat_pm e hm pm h2)
    dsimp only
    rw [List.getD_eq_getElem?_getD, List.getD_eq_getElem?_getD, hj, hv]
    exact r
theorem vals_pm {vs : List V} {us : List Value} (r : Vals vs us) : ∀ (pm : List Nat), (pm.all fun j => decide (j < vs.length)) = true → Vals (pm.map fun j => vs.getD j .non) (pm.map fun j => us.getD j .none)
  | [], _ => .nil
  | j :: pm, hp => by
    rw [List.all_cons] at hp
    obtain ⟨h1, h2⟩ := iff_and hp
    have lt := of_decide_eq_true h1
    obtain ⟨u, hu, rv⟩ := r.get (List.getElem?_eq_getElem lt)
    refine .cons ?_ (vals_pm r pm h2)
    dsimp only
    rw [List.getD_eq_getElem?_getD, List.getD_eq_getElem?_getD, hu, List.getElem?_eq_getElem lt]
    exact rv
theorem kw_imp {F : Fn} {N : Nat} {pm : List Nat} (hp : (pm.all fun j => decide (j < N)) = true) (hl : pm.length = F.md.length) {vs : List V} {H : Hp} {Q : VK} {E : XK} (hv : vs.length = N) (h : spF T (kwFn N pm F) vs H Q E) : spF T F (pm.map fun j => vs.getD j .non) H Q E := by
  obtain ⟨us, s, L, hs, k, l1, l2, er, eo, wn⟩ := h
  have l1' : us.length = N := by rw [l1]; exact List.length_replicate ..
  have eo' : EnvR T s.Z emp s.E (us.map some) (vs.map some) := by
    have := eo
    rw [show (kwFn N pm F).md = List.replicate N .own from rfl, own_env l1'] at this
    exact this
  have wn : WantG (fun Z t w v => Rep T Z emp t w v) T (vs.map some) s (if hasL Fl.isMut us then .bad else match F.run (pm.map fun j => us.getD j .non) with
    | .ok w _ => .ok w (List.replicate N none)
    | .ex c w _ => .ex c w (List.replicate N none)
    | .bad => .bad) Q E := wn
  split at wn
  · exact wn.elim
  · rename_i hm
    have hm : hasL Fl.isMut us = false := by simpa using hm
    have fl := flat_pm eo' hm pm (by rw [l1']; exact hp)
    obtain ⟨x1, x2⟩ := fl.env (L := L) (md := F.md) (by rw [List.length_map]; exact hl)
    refine ⟨_, s, L, hs, k, by rw [List.length_map]; exact hl, by rw [List.length_map]; exact hl, x1, x2.wid (.emp _), ?_⟩
    have non : ∀ (Z h : Hp), EnvR T Z emp h (List.replicate N none) (vs.map some) := fun Z h => by
      have := envR_nons (T := T) (Z := Z) (L := emp) (h := h) (vs.map some)
      rw [List.length_map, hv] at this
      exact this
    cases q : F.run (pm.map fun j => us.getD j .non) with
    | bad => rw [q] at wn; exact wn
    | ok y bs => rw [q] at wn; exact fun v s' t p _ r => wn v s' t p (non _ _) r
    | ex c y bs => rw [q] at wn; exact fun cls d s' p _ r => wn cls d s' p (non _ _) r
theorem item_kw {k n : Nat} {F : Fn} {fa : Addr} {fd : FuncData} {ps ks : List Str} {pm : List Nat} {x : Str} (G : ∀ base, FnG P w K mg base (CX P w) k fa fd ps (spF T F)) (hm : mg x = some (.ref fa)) (hk : PySem.W.keepIn K (.ref fa) = true)
    (hp : (pm.all fun j => decide (j < n + ks.length)) = true) (hl : pm.length = F.md.length) (hb : ∀ us : List Value, us.length = n + ks.length → bindArgs fd ⟨us.take n, ks.zip (us.drop n)⟩ = pure (ps.zip (pm.map fun j => us.getD j .none))) :
    ItemOk P w K mg base T k (kwFn (n + ks.length) pm F) (.fn x n ks) := by
  rintro X E rfl rfl rfl rfl rfl hr ga hx
  exact ⟨fa, hm, hk, cf_of (g := fun us => pm.map fun j => us.getD j .none) (gV := fun vs => pm.map fun j => vs.getD j .non) (G _) hr ga hx (fun st us _ hu => .of_eq (hb us hu)) (fun {vs us} r hv => vals_pm r pm (by rw [hv]; exact hp)) fun vs H Q hv h => kw_imp hp hl hv h⟩
/-! ## names -/
def bigL : List Str → Nat
  | [] => 1
  | x :: l => x.cps.size + bigL l
theorem bigL_lt : ∀ {l : List Str} {x : Str}, x ∈ l → x.cps.size < bigL l
  | [], _, h => by simp at h
  | y :: l, x, h => by
    have pos : ∀ l : List Str, 0 < bigL l := fun l => by
      induction l with
      | nil => exact Nat.one_pos
      | cons a l ih => unfold bigL; omega
    unfold bigL
    rcases List.mem_cons.mp h with rfl | h
    · have := pos l; omega
    · have := bigL_lt h; omega
/-- names by numbers; behind the list names that nothing bears -/
def nmOf (l : List Str) (i : Nat) : Str := match l[i]? with
  | some x => x
  | none => ⟨(List.replicate (bigL l + i) 0).toArray⟩
theorem nodup_inj : ∀ {l : List Str} {i j : Nat}, l.Nodup → l[i]? = l[j]? → (l[i]?).isSome = true → i = j
  | [], _, _, _, _, h => by simp at h
  | x :: l, 0, 0, _, _, _ => rfl
  | x :: l, i + 1, j + 1, nd, e, h => by
    have := nodup_inj (i := i) (j := j) (List.nodup_cons.mp nd).2 (by simpa using e) (by simpa using h)
    rw [this]
  | x :: l, 0, j + 1, nd, e, _ => by
    have : x ∈ l := List.mem_of_getElem? (i := j) (by simpa using e.symm)
    exact absurd this (List.nodup_cons.mp nd).1
  | x :: l, i + 1, 0, nd, e, _ => by
    have : x ∈ l := List.mem_of_getElem? (i := i) (by simpa using e)
    exact absurd this (List.nodup_cons.mp nd).1
theorem nmOf_inj {l : List Str} (nd : l.Nodup) : ∀ i j, nmOf l i = nmOf l j → i = j := fun i j h => by
  have size : ∀ k, (⟨(List.replicate k 0).toArray⟩ : Str).cps.size = k := fun k => by simp
  unfold nmOf at h
  cases hi : l[i]? with
  | some x =>
    cases hj : l[j]? with
    | some y =>
      rw [hi, hj] at h
      cases (show x = y from h)
      obtain ⟨li, ei⟩ := List.getElem?_eq_some_iff.mp hi
      obtain ⟨lj, ej⟩ := List.getElem?_eq_some_iff.mp hj
      exact nodup_inj nd (by rw [hi, hj])  (by rw [hi]; rfl)
    | none =>
      rw [hi, hj] at h
      have h' : x = ⟨(List.replicate (bigL l + j) 0).toArray⟩ := h
      have := bigL_lt (List.mem_of_getElem? hi)
      rw [h', size] at this
      omega
  | none =>
    cases hj : l[j]? with
    | some y =>
      rw [hi, hj] at h
      have h' : ⟨(List.replicate (bigL l + i) 0).toArray⟩ = y := h
      have := bigL_lt (List.mem_of_getElem? hj)
      rw [← h', size] at this
      omega
    | none =>
      rw [hi, hj] at h
      have := congrArg (fun x : Str => x.cps.size) h
      simp only [size] at this
      omega
def tbOf (K : PySem.W.Frag) (l : List Str) (nd : l.Nodup) (nF : Nat) (cl : Nat → Addr) : Tb := ⟨K, nmOf l, cl, nF, nmOf_inj nd⟩
theorem nmOf_at {l : List Str} {i : Nat} {x : Str} (h : l[i]? = some x) : nmOf l i = x := by
  unfold nmOf; rw [h]
end
end VL
set_option Elab.async false
set_option linter.all false
set_option maxRecDepth 100000
set_option maxHeartbeats 4000000
namespace VL
open PySem L2
section
variable {P : Program} {w : World} {K : PySem.W.Frag} {mg : Str → Option Value} {base : Heap} {T : Tb}
/-- what the law's def is asked -/
def spLaw (n : Nat) : Sp := fun vs H Q _ => ∃ (a : Addr) (ns : List Int), vs = [.ref a] ∧ ns.length ≤ n ∧ Rd H a (.lst (ns.map V.int)) ∧ ∀ v H', v = .bl true → Q v H'
theorem law_spQ {F : Fn} {n : Nat} (hm : F.md = [.own]) (h : ∀ ns : List Int, ns.length ≤ n → ∃ bs, F.run [.lst .frz (ns.map W.int)] = .ok (.bl true) bs) (vs : List V) (H : Hp) (Q : VK) (E : XK) (hs : spLaw n vs H Q E) : spF T F vs H Q E := by
  obtain ⟨a, ns, rfl, hl, hr, q⟩ := hs
  obtain ⟨us, s, L, h1, h2, h3, h4, h5, h6, h7⟩ := law_sp (T := T) hm h H a ns hl hr
  refine ⟨us, s, L, h1, h2, h3, h4, h5, h6, ?_⟩
  cases e : F.run us with
  | bad => rw [e] at h7; exact h7
  | ok y bs => rw [e] at h7; exact fun v s' t p eb r => q v s'.H (h7 v s' t p eb r)
  | ex c y bs => rw [e] at h7; exact fun cls d s' p eb r => (h7 cls d s' p eb r).elim
theorem FnG.imp {CT : CXT} {k : Nat} {f : Addr} {fd : FuncData} {ps : List Str} {sp sp' : Sp} (F : FnG P w K mg base CT k f fd ps sp) (h : ∀ vs H Q E, sp' vs H Q E → sp vs H Q E) : FnG P w K mg base CT k f fd ps sp' :=
  ⟨fun vs H Q E q => F.len vs H Q E (h _ _ _ _ q), fun A fr st H args us vs Q E r g e b v q => F.go A fr st H args us vs Q E r g e b v (h _ _ _ _ q)⟩
def allNone (mg : Str → Option Value) : List Str → Prop
  | [] => True
  | x :: l => mg x = none ∧ allNone mg l
theorem allNone_at : ∀ {l : List Str} {x : Str}, allNone mg l → l.contains x = true → mg x = none
  | [], _, _, h => by simp at h
  | y :: l, x, a, h => by
    rcases List.mem_cons.mp (List.contains_iff_mem.mp h) with rfl | h
    · exact a.1
    · exact allNone_at a.2 (List.contains_iff_mem.mpr h)
theorem Sh.to {M M' : MC} (sh : Sh K mg T M) (h1 : M'.nm = M.nm) (h2 : M'.nF = M.nF) (h3 : M'.blt = M.blt) : Sh K mg T M' := ⟨sh.kk, sh.fld, by rw [h1]; exact sh.nm, by rw [h2]; exact sh.nF, by rw [h3]; exact sh.blt⟩
end
/-- the end of a law -/
theorem walkE {l : PySem.W.OpenLaw} {k : Nat} {q : Program} {loose : List Str} {XP : (Str → Option Value) → Heap → Prop} {YP : World → Heap → Prop} {d : PySem.DefRec} {K : Params → PySem.W.Frag}
    (hn : l.most = some 63) (hdf : d.params.defaults = []) (hr : Room k PySem.callerA) (hK : ∀ w : World, noList (K w.params) = true) (hY : ∀ (w : World) (h : Heap), YP w h → (K w.params).In h)
    (F : ∀ (w : World) (mg : Str → Option Value) (fa : Addr) (h : Heap), (K w.params).In h → h.Ns mainGlobals mg → mg d.name = some (.ref fa) →
      ∃ fd : FuncData, (∀ (st : Shared) (u : Value), BindsTo st fd ⟨[u], []⟩ [("script", u)]) ∧ ∀ base : Heap, (K w.params).In base → base.Ns mainGlobals mg → FnG l.prog w (K w.params) mg base (CX l.prog w) k fa fd ["script"] (spLaw 63)) :
    PySem.W.WalkO q loose XP YP l.row.toRowW d [] (fun f vs => PySem.call f vs) :=
  walkG (n := 63) (x := "script") (CT := fun w => CX l.prog w) (sp := fun _ => spLaw 63) hn (by decide) hdf hr hK hY F (fun w H a ns hl _ hR => ⟨a, ns, rfl, hl, hR, fun _ _ e => e⟩) fun w H st e s2 h => cx_no l.prog w H st e s2 h
end VL
set_option Elab.async false
set_option linter.all false
set_option maxRecDepth 100000
set_option maxHeartbeats 4000000
namespace VL
open PySem L2
/-! # what the evaluator does: rules for plain proofs -/
abbrev ExC := Nat → W → Env → Prop
abbrev noX : ExC := fun _ _ _ => False
/- what stands behind is not looked at before its time: later arguments hang on it -/
inductive TgR {α : Type} (Q : α → Env → Prop) (X : ExC) : Type | mk
inductive TgO (N B C : Env → Env → Prop) (T : W → Env → Prop) (X : ExC) : Type | mk
inductive TgK {α : Type} (k : α) : Type | mk
def R.wp {α : Type} (r : R α) (Q : α → Env → Prop) (X : ExC) (t : TgR Q X := .mk) : Prop := match r with
  | .ok a env => Q a env
  | .ex c w env => X c w env
  | .bad => False
def O.wp (o : O) (N B C : Env → Env → Prop) (T : W → Env → Prop) (X : ExC) (t : TgO N B C T X := .mk) : Prop := match o with
  | .nx ro env => N ro env
  | .rt w env => T w env
  | .bk ro env => B ro env
  | .ct ro env => C ro env
  | .ex c w env => X c w env
  | .bad => False
def withE {α : Type} (p : Env × Env) (k : Env → Env → α) (t : TgK k := .mk) : α := k p.1 p.2
def bindK {α β : Type} (o : Option α) (k : α → R β) (t : TgK k := .mk) : R β := bindE o k
def optB {β : Type} (b : Bool) (o : Option β) : Option β := if b then o else none
def stK {β : Type} (o : Option β) (k : β → O) (t : TgK k := .mk) : O := match o with
  | some p => k p
  | none => .bad
def asgK (o : Option (Env × Env)) (k : Env → Env → O) (t : TgK k := .mk) : O := match o with
  | some p => k p.1 p.2
  | none => .bad
theorem R.wp_mono {α : Type} {r : R α} {Q Q' : α → Env → Prop} {X X' : ExC} (h : r.wp Q X) (hq : ∀ a env, Q a env → Q' a env) (hx : ∀ c w env, X c w env → X' c w env) : r.wp Q' X' := by
  cases r with
  | ok a env => exact hq _ _ h
  | ex c w env => exact hx _ _ _ h
  | bad => exact h
theorem R.wp_of {α : Type} {r : R α} {Q Q' : α → Env → Prop} {X : ExC} (h : r.wp Q noX) (hq : ∀ a env, Q a env → Q' a env) : r.wp Q' X := R.wp_mono h hq fun _ _ _ z => z.elim
theorem O.wp_mono {o : O} {N B C N' B' C' : Env → Env → Prop} {T T' : W → Env → Prop} {X X' : ExC} (h : o.wp N B C T X) (hN : ∀ a b, N a b → N' a b) (hB : ∀ a b, B a b → B' a b) (hC : ∀ a b, C a b → C' a b) (hT : ∀ a b, T a b → T' a b) (hX : ∀ c a b, X c a b → X' c a b) : o.wp N' B' C' T' X' := by
  cases o with
  | nx a b => exact hN _ _ h
  | bk a b => exact hB _ _ h
  | ct a b => exact hC _ _ h
  | rt a b => exact hT _ _ h
  | ex c a b => exact hX _ _ _ h
  | bad => exact h
section
variable {α β : Type} {Q : α → Env → Prop} {N B C : Env → Env → Prop} {T : W → Env → Prop} {X : ExC}
@[simp ↓] theorem R.wp_ok (a : α) (env : Env) : (R.ok a env).wp Q X = Q a env := (rfl)
@[simp ↓] theorem R.wp_ex (c : Nat) (w : W) (env : Env) : (R.ex c w env : R α).wp Q X = X c w env := (rfl)
@[simp ↓] theorem R.wp_bad : (R.bad : R α).wp Q X = False := (rfl)
@[simp ↓] theorem R.wp_bind {r : R β} {k : β → Env → R α} : (r.bind k).wp Q X = r.wp (fun a env => (k a env).wp Q X) X := by cases r <;> rfl
@[simp ↓] theorem O.wp_nx (ro env : Env) : (O.nx ro env).wp N B C T X = N ro env := (rfl)
@[simp ↓] theorem O.wp_bk (ro env : Env) : (O.bk ro env).wp N B C T X = B ro env := (rfl)
@[simp ↓] theorem O.wp_ct (ro env : Env) : (O.ct ro env).wp N B C T X = C ro env := (rfl)
@[simp ↓] theorem O.wp_rt (w : W) (env : Env) : (O.rt w env).wp N B C T X = T w env := (rfl)
@[simp ↓] theorem O.wp_ex (c : Nat) (w : W) (env : Env) : (O.ex c w env).wp N B C T X = X c w env := (rfl)
@[simp ↓] theorem O.wp_bad : O.bad.wp N B C T X = False := (rfl)
@[simp ↓] theorem O.wp_st {r : R β} {k : β → Env → O} : (r.st k).wp N B C T X = r.wp (fun a env => (k a env).wp N B C T X) X := by cases r <;> rfl
@[simp ↓] theorem O.wp_seq {o : O} {k : Env → Env → O} : (o.seq k).wp N B C T X = o.wp (fun ro env => (k ro env).wp N B C T X) B C T X := by cases o <;> rfl
@[simp ↓] theorem R.wp_bindE {o : Option β} {k : β → R α} : (bindE o k).wp Q X = (bindK o k).wp Q X := (rfl)
@[simp] theorem R.wp_bindK_some {a : β} {k : β → R α} : (bindK (some a) k).wp Q X = (k a).wp Q X := (rfl)
@[simp] theorem R.wp_bindK_none {k : β → R α} : (bindK none k).wp Q X = False := (rfl)
@[simp] theorem R.wp_withE {a b : Env} {k : Env → Env → R α} : (withE (a, b) k).wp Q X = (k a b).wp Q X := (rfl)
@[simp] theorem O.wp_withE {a b : Env} {k : Env → Env → O} : (withE (a, b) k).wp N B C T X = (k a b).wp N B C T X := (rfl)
@[simp] theorem P_withE {a b : Env} {k : Env → Env → Prop} : withE (a, b) k = k a b := (rfl)
@[simp] theorem O.wp_asgK {a b : Env} {k : Env → Env → O} : (asgK (some (a, b)) k).wp N B C T X = (k a b).wp N B C T X := (rfl)
@[simp] theorem O.wp_asgK_none {k : Env → Env → O} : (asgK none k).wp N B C T X = False := (rfl)
@[simp] theorem O.wp_stK {a : β} {k : β → O} : (stK (some a) k).wp N B C T X = (k a).wp N B C T X := (rfl)
@[simp] theorem O.wp_stK_none {k : β → O} : (stK none k).wp N B C T X = False := (rfl)
@[simp] theorem opt_true {a : β} : VL.opt true a = some a := (rfl)
@[simp] theorem opt_false {a : β} : VL.opt false a = none := (rfl)
@[simp] theorem opt_bind {b : Bool} {a : β} {g : β → Option α} : (VL.opt b a).bind g = optB b (g a) := by cases b <;> rfl
@[simp] theorem optB_bind {b : Bool} {a : Option β} {g : β → Option α} : (optB b a).bind g = optB b (a.bind g) := by cases b <;> rfl
@[simp] theorem optB_map {b : Bool} {a : Option β} {g : β → α} : (optB b a).map g = optB b (a.map g) := by cases b <;> rfl
@[simp] theorem optB_some {b : Bool} {a : β} : optB b (some a) = VL.opt b a := rfl
@[simp] theorem optB_true {o : Option β} : optB true o = o := rfl
@[simp] theorem optB_false {o : Option β} : optB false o = none := rfl
@[simp] theorem O.wp_stK_optB {b : Bool} {a : Option β} {k : β → O} : (stK (optB b a) k).wp N B C T X = (b = true ∧ (stK a k).wp N B C T X) := by cases b <;> simp
@[simp] theorem R.wp_bindK_optB {b : Bool} {a : Option β} {k : β → R α} : (bindK (optB b a) k).wp Q X = (b = true ∧ (bindK a k).wp Q X) := by cases b <;> simp
@[simp] theorem R.wp_opt_optB {b : Bool} {a : Option α} {env : Env} : (R.opt (optB b a) env).wp Q X = (b = true ∧ (R.opt a env).wp Q X) := by cases b <;> simp
@[simp] theorem O.wp_oOpt_opt {b : Bool} {a : Env × Env} : (oOpt (VL.opt b a)).wp N B C T X = (b = true ∧ (oOpt (some a)).wp N B C T X) := by cases b <;> simp [oOpt]
@[simp] theorem O.wp_oOpt_optB {b : Bool} {a : Option (Env × Env)} : (oOpt (optB b a)).wp N B C T X = (b = true ∧ (oOpt a).wp N B C T X) := by cases b <;> simp [oOpt]
@[simp] theorem O.wp_asgK_opt {b : Bool} {a : Env × Env} {k : Env → Env → O} : (asgK (VL.opt b a) k).wp N B C T X = (b = true ∧ (asgK (some a) k).wp N B C T X) := by cases b <;> simp
@[simp] theorem O.wp_asgK_optB {b : Bool} {a : Option (Env × Env)} {k : Env → Env → O} : (asgK (optB b a) k).wp N B C T X = (b = true ∧ (asgK a k).wp N B C T X) := by cases b <;> simp
@[simp] theorem opt_map {b : Bool} {a : β} {g : β → α} : (VL.opt b a).map g = VL.opt b (g a) := by cases b <;> rfl
@[simp] theorem O.wp_stK_opt {b : Bool} {a : β} {k : β → O} : (stK (VL.opt b a) k).wp N B C T X = (b = true ∧ (k a).wp N B C T X) := by cases b <;> simp
@[simp] theorem O.wp_oOpt {a b : Env} : (oOpt (some (a, b))).wp N B C T X = N a b := (rfl)
@[simp] theorem O.wp_oOpt_none : (oOpt none).wp N B C T X = False := (rfl)
@[simp ↓] theorem R.wp_noEx {r : R α} : (noEx r).wp Q X = r.wp Q noX := by cases r <;> rfl
@[simp] theorem R.wp_guard {c : Prop} [Decidable c] {a : R α} : (if c then a else R.bad).wp Q X = (c ∧ a.wp Q X) := by by_cases h : c <;> simp [h]
@[simp] theorem R.wp_guard' {c : Prop} [Decidable c] {a : R α} : (if c then R.bad else a).wp Q X = (¬ c ∧ a.wp Q X) := by by_cases h : c <;> simp [h]
@[simp] theorem O.wp_guard {c : Prop} [Decidable c] {a : O} : (if c then a else O.bad).wp N B C T X = (c ∧ a.wp N B C T X) := by by_cases h : c <;> simp [h]
@[simp] theorem O.wp_guard' {c : Prop} [Decidable c] {a : O} : (if c then O.bad else a).wp N B C T X = (¬ c ∧ a.wp N B C T X) := by by_cases h : c <;> simp [h]
@[simp] theorem szLine_lit : szLine = 16777216 := (rfl)
/-- a list of slots, reckoned first -/
def onE (e : Env) (k : Env → Prop) (t : TgK k := .mk) : Prop := k e
@[simp] theorem onE_nil {k : Env → Prop} : onE [] k = k [] := (rfl)
@[simp] theorem onE_cons {a : Option W} {e : Env} {k : Env → Prop} : onE (a :: e) k = k (a :: e) := (rfl)
@[simp ↓] theorem R.wp_backR {old : Env} {xs : List Nat} {r : R W} {Q : W → Env → Prop} : (backR old xs r).wp Q X = r.wp (fun w env => w.lnt? = false ∧ onE (backE old env xs) fun e => Q w e) (fun c w env => onE (backE old env xs) fun e => X c w e) := by
  cases r with
  | ok w env => show (if w.lnt? then R.bad else R.ok w (backE old env xs)).wp Q X = (w.lnt? = false ∧ Q w _); by_cases h : w.lnt? = true <;> simp [h]
  | ex c w env => rfl
  | bad => rfl
@[simp ↓] theorem R.wp_backB {old : Env} {xs : List Nat} {r : R Bool} {Q : Bool → Env → Prop} : (backB old xs r).wp Q X = r.wp (fun w env => onE (backE old env xs) fun e => Q w e) (fun c w env => onE (backE old env xs) fun e => X c w e) := by
  cases r <;> rfl
@[simp ↓] theorem O.wp_backO {old ro : Env} {xs ks : List Nat} {o : O} : (backO old ro xs ks o).wp N B C T X = o.wp (fun _ env => withE (keepRo ks ro, backE old env xs) N) (fun _ env => withE (keepRo ks ro, backE old env xs) B) (fun _ env => withE (keepRo ks ro, backE old env xs) C) (fun w env => onE (backE old env xs) fun e => T w e) (fun c w env => onE (backE old env xs) fun e => X c w e) := by
  cases o <;> rfl
theorem R.wp_if {c : Prop} [Decidable c] {a b : R α} : (if c then a else b).wp Q X = if c then a.wp Q X else b.wp Q X := by split <;> rfl
theorem O.wp_if {c : Prop} [Decidable c] {a b : O} : (if c then a else b).wp N B C T X = if c then a.wp N B C T X else b.wp N B C T X := by split <;> rfl
end
/-! ## equations, one a word -/
section
variable {ρ : Nat → Fn} {ro env : Env}
theorem ev_lit {w : W} : ev ρ (.lit w) ro env = .ok w env := by rw [ev] <;> rfl
@[simp ↓] theorem wp_ev_lit {w : W} {Q : W → Env → Prop} {X : ExC} : (ev ρ (.lit w) ro env).wp Q X = R.wp (.ok w env) Q X := by rw [ev_lit]
theorem ev_var {i : Nat} : ev ρ (.var i) ro env = match env[i]? with
    | some (some w) => if w.own? then .bad else .ok w env
    | _ => match ro[i]? with
      | some (some w) => .ok w env
      | _ => .bad := by rw [ev] <;> rfl
@[simp ↓] theorem wp_ev_var {i : Nat} {Q : W → Env → Prop} {X : ExC} : (ev ρ (.var i) ro env).wp Q X = R.wp (match env[i]? with
    | some (some w) => if w.own? then .bad else .ok w env
    | _ => match ro[i]? with
      | some (some w) => .ok w env
      | _ => .bad) Q X := by rw [ev_var]
theorem ev_frz {i : Nat} : ev ρ (.frz i) ro env = match env[i]? with
    | some (some w) => .ok w.freeze (env.set i (some w.freeze))
    | _ => match ro[i]? with
      | some (some w) => .ok w env
      | _ => .bad := by rw [ev] <;> rfl
@[simp ↓] theorem wp_ev_frz {i : Nat} {Q : W → Env → Prop} {X : ExC} : (ev ρ (.frz i) ro env).wp Q X = R.wp (match env[i]? with
    | some (some w) => .ok w.freeze (env.set i (some w.freeze))
    | _ => match ro[i]? with
      | some (some w) => .ok w env
      | _ => .bad) Q X := by rw [ev_frz]
theorem ev_mov {i : Nat} : ev ρ (.mov i) ro env = match env[i]? with
    | some (some w) => .ok w (env.set i none)
    | _ => match ro[i]? with
      | some (some w) => .ok w env
      | _ => .bad := by rw [ev] <;> rfl
@[simp ↓] theorem wp_ev_mov {i : Nat} {Q : W → Env → Prop} {X : ExC} : (ev ρ (.mov i) ro env).wp Q X = R.wp (match env[i]? with
    | some (some w) => .ok w (env.set i none)
    | _ => match ro[i]? with
      | some (some w) => .ok w env
      | _ => .bad) Q X := by rw [ev_mov]
theorem ev_bor {i : Nat} : ev ρ (.bor i) ro env = match env[i]? with
    | some (some _) => .ok .non env
    | _ => .bad := by rw [ev] <;> rfl
@[simp ↓] theorem wp_ev_bor {i : Nat} {Q : W → Env → Prop} {X : ExC} : (ev ρ (.bor i) ro env).wp Q X = R.wp (match env[i]? with
    | some (some _) => .ok .non env
    | _ => .bad) Q X := by rw [ev_bor]
theorem ev_lend {xs : List Nat} {e : IE} : ev ρ (.lend xs e) ro env = withE (lendE env ro xs) fun e1 r1 => backR env xs (ev ρ e r1 e1) := by rw [ev]; rfl
@[simp ↓] theorem wp_ev_lend {xs : List Nat} {e : IE} {Q : W → Env → Prop} {X : ExC} : (ev ρ (.lend xs e) ro env).wp Q X = R.wp (withE (lendE env ro xs) fun e1 r1 => backR env xs (ev ρ e r1 e1)) Q X := by rw [ev_lend]
theorem ev_bin {o : BinO} {a b : IE} : ev ρ (.bin o a b) ro env = (ev ρ a ro env).bind fun x env1 => (ev ρ b ro env1).bind fun y env2 => R.opt (binF o x y) env2 := by rw [ev] <;> rfl
@[simp ↓] theorem wp_ev_bin {o : BinO} {a b : IE} {Q : W → Env → Prop} {X : ExC} : (ev ρ (.bin o a b) ro env).wp Q X = R.wp ((ev ρ a ro env).bind fun x env1 => (ev ρ b ro env1).bind fun y env2 => R.opt (binF o x y) env2) Q X := by rw [ev_bin]
theorem ev_neg {a : IE} : ev ρ (.neg a) ro env = (ev ρ a ro env).bind fun x env1 => match x with
    | .int i => .ok (.int (-i)) env1
    | _ => .bad := by rw [ev] <;> rfl
@[simp ↓] theorem wp_ev_neg {a : IE} {Q : W → Env → Prop} {X : ExC} : (ev ρ (.neg a) ro env).wp Q X = R.wp ((ev ρ a ro env).bind fun x env1 => match x with
    | .int i => .ok (.int (-i)) env1
    | _ => .bad) Q X := by rw [ev_neg]
theorem ev_cmp {o : CmpO} {a b : IE} : ev ρ (.cmp o a b) ro env = (ev ρ a ro env).bind fun x env1 => (ev ρ b ro env1).bind fun y env2 => R.opt ((cmpF o x y).map W.bl) env2 := by rw [ev] <;> rfl
@[simp ↓] theorem wp_ev_cmp {o : CmpO} {a b : IE} {Q : W → Env → Prop} {X : ExC} : (ev ρ (.cmp o a b) ro env).wp Q X = R.wp ((ev ρ a ro env).bind fun x env1 => (ev ρ b ro env1).bind fun y env2 => R.opt ((cmpF o x y).map W.bl) env2) Q X := by rw [ev_cmp]
theorem ev_chain {o p : CmpO} {a b c : IE} : ev ρ (.chain o p a b c) ro env = (ev ρ a ro env).bind fun x env1 => (ev ρ b ro env1).bind fun y env2 => bindE (cmpF o x y) fun k =>
      if k then (ev ρ c ro env2).bind fun z env3 => R.opt ((cmpF p y z).map W.bl) env3 else .ok (.bl false) env2 := by rw [ev] <;> rfl
@[simp ↓] theorem wp_ev_chain {o p : CmpO} {a b c : IE} {Q : W → Env → Prop} {X : ExC} : (ev ρ (.chain o p a b c) ro env).wp Q X = R.wp ((ev ρ a ro env).bind fun x env1 => (ev ρ b ro env1).bind fun y env2 => bindE (cmpF o x y) fun k =>
      if k then (ev ρ c ro env2).bind fun z env3 => R.opt ((cmpF p y z).map W.bl) env3 else .ok (.bl false) env2) Q X := by rw [ev_chain]
theorem ev_tup {es : List IE} : ev ρ (.tup es) ro env = (evs ρ es ro env).bind fun ws env1 => if ws.length ≤ szLine then .ok (.tup ws) env1 else .bad := by rw [ev] <;> rfl
@[simp ↓] theorem wp_ev_tup {es : List IE} {Q : W → Env → Prop} {X : ExC} : (ev ρ (.tup es) ro env).wp Q X = R.wp ((evs ρ es ro env).bind fun ws env1 => if ws.length ≤ szLine then .ok (.tup ws) env1 else .bad) Q X := by rw [ev_tup]
theorem ev_lst {es : List IE} : ev ρ (.lst es) ro env = (evs ρ es ro env).bind fun ws env1 => if ws.length ≤ szLine then .ok (.lst .own ws) env1 else .bad := by rw [ev] <;> rfl
@[simp ↓] theorem wp_ev_lst {es : List IE} {Q : W → Env → Prop} {X : ExC} : (ev ρ (.lst es) ro env).wp Q X = R.wp ((evs ρ es ro env).bind fun ws env1 => if ws.length ≤ szLine then .ok (.lst .own ws) env1 else .bad) Q X := by rw [ev_lst]
theorem ev_ands {es : List IE} : ev ρ (.ands es) ro env = evAnd ρ es ro env := by rw [ev] <;> rfl
@[simp ↓] theorem wp_ev_ands {es : List IE} {Q : W → Env → Prop} {X : ExC} : (ev ρ (.ands es) ro env).wp Q X = R.wp (evAnd ρ es ro env) Q X := by rw [ev_ands]
theorem ev_ors {es : List IE} : ev ρ (.ors es) ro env = evOr ρ es ro env := by rw [ev] <;> rfl
@[simp ↓] theorem wp_ev_ors {es : List IE} {Q : W → Env → Prop} {X : ExC} : (ev ρ (.ors es) ro env).wp Q X = R.wp (evOr ρ es ro env) Q X := by rw [ev_ors]
theorem ev_dnot {a : IE} : ev ρ (.dnot a) ro env = (ev ρ a ro env).bind fun x env1 => match x with
    | .bl b => .ok (.bl (!b)) env1
    | _ => .bad := by rw [ev] <;> rfl
@[simp ↓] theorem wp_ev_dnot {a : IE} {Q : W → Env → Prop} {X : ExC} : (ev ρ (.dnot a) ro env).wp Q X = R.wp ((ev ρ a ro env).bind fun x env1 => match x with
    | .bl b => .ok (.bl (!b)) env1
    | _ => .bad) Q X := by rw [ev_dnot]
theorem ev_ite {c : IT} {a b : IE} : ev ρ (.ite c a b) ro env = (evT ρ c ro env).bind fun k env1 => if k then ev ρ a ro env1 else ev ρ b ro env1 := by rw [ev] <;> rfl
@[simp ↓] theorem wp_ev_ite {c : IT} {a b : IE} {Q : W → Env → Prop} {X : ExC} : (ev ρ (.ite c a b) ro env).wp Q X = R.wp ((evT ρ c ro env).bind fun k env1 => if k then ev ρ a ro env1 else ev ρ b ro env1) Q X := by rw [ev_ite]
theorem ev_blt {b : Blt} {es : List IE} : ev ρ (.blt b es) ro env = (evs ρ es ro env).bind fun ws env1 => R.opt (bltF b ws) env1 := by rw [ev] <;> rfl
@[simp ↓] theorem wp_ev_blt {b : Blt} {es : List IE} {Q : W → Env → Prop} {X : ExC} : (ev ρ (.blt b es) ro env).wp Q X = R.wp ((evs ρ es ro env).bind fun ws env1 => R.opt (bltF b ws) env1) Q X := by rw [ev_blt]
theorem ev_isin {a : IE} {t : Ty} : ev ρ (.isin a t) ro env = (ev ρ a ro env).bind fun x env1 => R.opt ((isinF t x).map W.bl) env1 := by rw [ev] <;> rfl
@[simp ↓] theorem wp_ev_isin {a : IE} {t : Ty} {Q : W → Env → Prop} {X : ExC} : (ev ρ (.isin a t) ro env).wp Q X = R.wp ((ev ρ a ro env).bind fun x env1 => R.opt ((isinF t x).map W.bl) env1) Q X := by rw [ev_isin]
theorem ev_lrg {tp : Bool} {lo : Option IE} {hi : IE} : ev ρ (.lrg tp lo hi) ro env = (evO ρ lo ro env).bind fun l env1 => (ev ρ hi ro env1).bind fun y env2 => R.opt (lrgF tp l y) env2 := by rw [ev] <;> rfl
@[simp ↓] theorem wp_ev_lrg {tp : Bool} {lo : Option IE} {hi : IE} {Q : W → Env → Prop} {X : ExC} : (ev ρ (.lrg tp lo hi) ro env).wp Q X = R.wp ((evO ρ lo ro env).bind fun l env1 => (ev ρ hi ro env1).bind fun y env2 => R.opt (lrgF tp l y) env2) Q X := by rw [ev_lrg]
theorem ev_idx {a b : IE} : ev ρ (.idx a b) ro env = (ev ρ a ro env).bind fun x env1 => (ev ρ b ro env1).bind fun y env2 => R.opt (idxF x y) env2 := by rw [ev] <;> rfl
@[simp ↓] theorem wp_ev_idx {a b : IE} {Q : W → Env → Prop} {X : ExC} : (ev ρ (.idx a b) ro env).wp Q X = R.wp ((ev ρ a ro env).bind fun x env1 => (ev ρ b ro env1).bind fun y env2 => R.opt (idxF x y) env2) Q X := by rw [ev_idx]
theorem ev_slc {a : IE} {lo hi : Option IE} : ev ρ (.slc a lo hi) ro env = (ev ρ a ro env).bind fun x env1 => (evO ρ lo ro env1).bind fun l env2 => (evO ρ hi ro env2).bind fun h env3 => R.opt (slcF x l h) env3 := by rw [ev] <;> rfl
@[simp ↓] theorem wp_ev_slc {a : IE} {lo hi : Option IE} {Q : W → Env → Prop} {X : ExC} : (ev ρ (.slc a lo hi) ro env).wp Q X = R.wp ((ev ρ a ro env).bind fun x env1 => (evO ρ lo ro env1).bind fun l env2 => (evO ρ hi ro env2).bind fun h env3 => R.opt (slcF x l h) env3) Q X := by rw [ev_slc]
theorem ev_fld {a : IE} {f : Nat} : ev ρ (.fld a f) ro env = (ev ρ a ro env).bind fun x env1 => R.opt (fldF x f) env1 := by rw [ev] <;> rfl
@[simp ↓] theorem wp_ev_fld {a : IE} {f : Nat} {Q : W → Env → Prop} {X : ExC} : (ev ρ (.fld a f) ro env).wp Q X = R.wp ((ev ρ a ro env).bind fun x env1 => R.opt (fldF x f) env1) Q X := by rw [ev_fld]
theorem ev_call {f : Nat} {as : List IE} : ev ρ (.call f as) ro env = (evs ρ as ro env).bind fun ws env1 => callFn (ρ f) as ws env1 := by rw [ev] <;> rfl
@[simp ↓] theorem wp_ev_call {f : Nat} {as : List IE} {Q : W → Env → Prop} {X : ExC} : (ev ρ (.call f as) ro env).wp Q X = R.wp ((evs ρ as ro env).bind fun ws env1 => callFn (ρ f) as ws env1) Q X := by rw [ev_call]
theorem ev_meth {c mi f : Nat} {r : IE} {as : List IE} : ev ρ (.meth c mi f r as) ro env = (ev ρ r ro env).bind fun x env1 => match recvW r x env1 with
    | some (.ins _ c' fs) => if c' = c ∧ (fs.lookup mi).isNone = true then (evs ρ as ro env1).bind fun ws env2 => callFn (ρ f) (r :: as) (x :: ws) env2 else .bad
    | _ => .bad := by rw [ev] <;> rfl
@[simp ↓] theorem wp_ev_meth {c mi f : Nat} {r : IE} {as : List IE} {Q : W → Env → Prop} {X : ExC} : (ev ρ (.meth c mi f r as) ro env).wp Q X = R.wp ((ev ρ r ro env).bind fun x env1 => match recvW r x env1 with
    | some (.ins _ c' fs) => if c' = c ∧ (fs.lookup mi).isNone = true then (evs ρ as ro env1).bind fun ws env2 => callFn (ρ f) (r :: as) (x :: ws) env2 else .bad
    | _ => .bad) Q X := by rw [ev_meth]
theorem ev_make {c f : Nat} {as : List IE} : ev ρ (.make c f as) ro env = (evs ρ as ro env).bind fun ws env1 => makeFn (ρ f) c as ws env1 := by rw [ev] <;> rfl
@[simp ↓] theorem wp_ev_make {c f : Nat} {as : List IE} {Q : W → Env → Prop} {X : ExC} : (ev ρ (.make c f as) ro env).wp Q X = R.wp ((evs ρ as ro env).bind fun ws env1 => makeFn (ρ f) c as ws env1) Q X := by rw [ev_make]
def compStep (ρ : Nat → Fn) (own : List Nat) (tg : Tg) (ifs : List IT) (e : IE) (ro2 : Env) (x : W) (env2 : Env) : R (Option W) := match asgT [] tg x ro2 env2 with
        | some (ro3, env3) => (evTand ρ ifs ro3 env3).bind fun k env4 => if k then (ev ρ e ro3 env4).bind fun w env5 => .ok (some w) (wipeE env5 own) else .ok none (wipeE env4 own)
        | none => .bad
theorem ev_comp {own : List Nat} {it : It} {tg : Tg} {ifs : List IT} {e : IE} : ev ρ (.comp own it tg ifs e) ro env = (evIt ρ it ro env).bind fun items env1 =>
      withE (wipeE ro own, wipeE env1 own) fun ro2 env0 => (noEx (compLoop (compStep ρ own tg ifs e ro2) items [] env0)).bind fun ws env6 => .ok (.lst .own ws) (backE env1 env6 own) := by rw [ev] <;> rfl
@[simp ↓] theorem wp_ev_comp {own : List Nat} {it : It} {tg : Tg} {ifs : List IT} {e : IE} {Q : W → Env → Prop} {X : ExC} : (ev ρ (.comp own it tg ifs e) ro env).wp Q X = R.wp ((evIt ρ it ro env).bind fun items env1 =>
      withE (wipeE ro own, wipeE env1 own) fun ro2 env0 => (noEx (compLoop (compStep ρ own tg ifs e ro2) items [] env0)).bind fun ws env6 => .ok (.lst .own ws) (backE env1 env6 own)) Q X := by rw [ev_comp]
theorem ev_mut {i : Nat} {fs : List Ps} {m : Mut} {as : List IE} : ev ρ (.mut i fs m as) ro env = match env[i]? with
    | some (some w) => bindE (getP w fs) fun x => if !m.fits x then .bad else withE (lendE env ro [i]) fun e1 r1 => (evs ρ as r1 e1).bind fun ws env2 => bindE (mutF m x ws) fun p => bindE (setP w fs p.1) fun w' => .ok p.2 (env2.set i (some w'))
    | _ => .bad := by rw [ev] <;> rfl
@[simp ↓] theorem wp_ev_mut {i : Nat} {fs : List Ps} {m : Mut} {as : List IE} {Q : W → Env → Prop} {X : ExC} : (ev ρ (.mut i fs m as) ro env).wp Q X = R.wp (match env[i]? with
    | some (some w) => bindE (getP w fs) fun x => if !m.fits x then .bad else withE (lendE env ro [i]) fun e1 r1 => (evs ρ as r1 e1).bind fun ws env2 => bindE (mutF m x ws) fun p => bindE (setP w fs p.1) fun w' => .ok p.2 (env2.set i (some w'))
    | _ => .bad) Q X := by rw [ev_mut]
theorem ev_dct0 : ev ρ .dct0 ro env = .ok (.dct .own []) env := by rw [ev] <;> rfl
@[simp ↓] theorem wp_ev_dct0 {Q : W → Env → Prop} {X : ExC} : (ev ρ .dct0 ro env).wp Q X = R.wp (.ok (.dct .own []) env) Q X := by rw [ev_dct0]
def dcompStep (ρ : Nat → Fn) (own : List Nat) (tg : Tg) (ifs : List IT) (k e : IE) (ro2 : Env) (x : W) (env2 : Env) : R (Option (Key × W)) := match asgT [] tg x ro2 env2 with
  | some (ro3, env3) => (evTand ρ ifs ro3 env3).bind fun b env4 => if b then (ev ρ k ro3 env4).bind fun kw env5 => bindE (keyOf kw) fun key => (ev ρ e ro3 env5).bind fun w env6 => .ok (some (key, w)) (wipeE env6 own) else .ok none (wipeE env4 own)
  | none => .bad
theorem ev_dcomp {own : List Nat} {it : It} {tg : Tg} {ifs : List IT} {k e : IE} : ev ρ (.dcomp own it tg ifs k e) ro env = (evIt ρ it ro env).bind fun items env1 =>
      withE (wipeE ro own, wipeE env1 own) fun ro2 env0 => (noEx (dcompLoop (dcompStep ρ own tg ifs k e ro2) items [] env0)).bind fun kvs env6 => .ok (.dct .own kvs) (backE env1 env6 own) := by rw [ev] <;> rfl
@[simp ↓] theorem wp_ev_dcomp {own : List Nat} {it : It} {tg : Tg} {ifs : List IT} {k e : IE} {Q : W → Env → Prop} {X : ExC} : (ev ρ (.dcomp own it tg ifs k e) ro env).wp Q X = R.wp ((evIt ρ it ro env).bind fun items env1 =>
      withE (wipeE ro own, wipeE env1 own) fun ro2 env0 => (noEx (dcompLoop (dcompStep ρ own tg ifs k e ro2) items [] env0)).bind fun kvs env6 => .ok (.dct .own kvs) (backE env1 env6 own)) Q X := by rw [ev_dcomp]
theorem ev_disp {tp : Bool} {st : List Bool} {es : List IE} : ev ρ (.disp tp st es) ro env = (evD ρ st es ro env).bind fun ws env1 => if ws.length ≤ szLine then .ok (if tp then .tup ws else .lst .own ws) env1 else .bad := by rw [ev] <;> rfl
@[simp ↓] theorem wp_ev_disp {tp : Bool} {st : List Bool} {es : List IE} {Q : W → Env → Prop} {X : ExC} : (ev ρ (.disp tp st es) ro env).wp Q X = R.wp ((evD ρ st es ro env).bind fun ws env1 => if ws.length ≤ szLine then .ok (if tp then .tup ws else .lst .own ws) env1 else .bad) Q X := by rw [ev_disp]
theorem ev_mtd {m : Mtd} {r : IE} {as : List IE} : ev ρ (.mtd m r as) ro env = (ev ρ r ro env).bind fun x env1 => if !m.fits x then .bad else (evs ρ as ro env1).bind fun ws env2 => R.opt (mtdF m x ws) env2 := by rw [ev] <;> rfl
@[simp ↓] theorem wp_ev_mtd {m : Mtd} {r : IE} {as : List IE} {Q : W → Env → Prop} {X : ExC} : (ev ρ (.mtd m r as) ro env).wp Q X = R.wp ((ev ρ r ro env).bind fun x env1 => if !m.fits x then .bad else (evs ρ as ro env1).bind fun ws env2 => R.opt (mtdF m x ws) env2) Q X := by rw [ev_mtd]
theorem evD_nil : evD ρ [] [] ro env = .ok [] env := by rw [evD] <;> rfl
@[simp ↓] theorem wp_evD_nil {Q : List W → Env → Prop} {X : ExC} : (evD ρ [] [] ro env).wp Q X = R.wp (.ok [] env) Q X := by rw [evD_nil]
theorem evD_cons {b : Bool} {st : List Bool} {e : IE} {r : List IE} : evD ρ (b :: st) (e :: r) ro env = (ev ρ e ro env).bind fun w env1 => bindE (starW b w) fun us => (evD ρ st r ro env1).bind fun ws env2 => .ok (us ++ ws) env2 := by rw [evD] <;> rfl
@[simp ↓] theorem wp_evD_cons {b : Bool} {st : List Bool} {e : IE} {r : List IE} {Q : List W → Env → Prop} {X : ExC} : (evD ρ (b :: st) (e :: r) ro env).wp Q X = R.wp ((ev ρ e ro env).bind fun w env1 => bindE (starW b w) fun us => (evD ρ st r ro env1).bind fun ws env2 => .ok (us ++ ws) env2) Q X := by rw [evD_cons]
@[simp] theorem starW_false {w : W} : starW false w = some [w] := (rfl)
@[simp] theorem starW_true {w : W} : starW true w = w.sq?.bind fun ws => VL.opt (!hasL Fl.isMut ws) ws := (rfl)
@[simp] theorem sq_lst {m : Fl} {ws : List W} : (W.lst m ws).sq? = some ws := (rfl)
@[simp] theorem sq_tup {ws : List W} : (W.tup ws).sq? = some ws := (rfl)
theorem evs_nil : evs ρ [] ro env = .ok [] env := by rw [evs] <;> rfl
@[simp ↓] theorem wp_evs_nil {Q : List W → Env → Prop} {X : ExC} : (evs ρ [] ro env).wp Q X = R.wp (.ok [] env) Q X := by rw [evs_nil]
theorem evs_cons {e : IE} {r : List IE} : evs ρ (e :: r) ro env = (ev ρ e ro env).bind fun w env1 => (evs ρ r ro env1).bind fun ws env2 => .ok (w :: ws) env2 := by rw [evs] <;> rfl
@[simp ↓] theorem wp_evs_cons {e : IE} {r : List IE} {Q : List W → Env → Prop} {X : ExC} : (evs ρ (e :: r) ro env).wp Q X = R.wp ((ev ρ e ro env).bind fun w env1 => (evs ρ r ro env1).bind fun ws env2 => .ok (w :: ws) env2) Q X := by rw [evs_cons]
theorem evO_none : evO ρ none ro env = .ok none env := by rw [evO] <;> rfl
@[simp ↓] theorem wp_evO_none {Q : Option Int → Env → Prop} {X : ExC} : (evO ρ none ro env).wp Q X = R.wp (.ok none env) Q X := by rw [evO_none]
theorem evO_some {e : IE} : evO ρ (some e) ro env = (ev ρ e ro env).bind fun w env1 => match w with
    | .int i => .ok (some i) env1
    | _ => .bad := by rw [evO] <;> rfl
@[simp ↓] theorem wp_evO_some {e : IE} {Q : Option Int → Env → Prop} {X : ExC} : (evO ρ (some e) ro env).wp Q X = R.wp ((ev ρ e ro env).bind fun w env1 => match w with
    | .int i => .ok (some i) env1
    | _ => .bad) Q X := by rw [evO_some]
theorem evAnd_one {e : IE} : evAnd ρ [e] ro env = ev ρ e ro env := by rw [evAnd] <;> rfl
@[simp ↓] theorem wp_evAnd_one {e : IE} {Q : W → Env → Prop} {X : ExC} : (evAnd ρ [e] ro env).wp Q X = R.wp (ev ρ e ro env) Q X := by rw [evAnd_one]
theorem evAnd_cons {e e' : IE} {r : List IE} : evAnd ρ (e :: e' :: r) ro env = (ev ρ e ro env).bind fun x env1 => match x with
    | .bl true => evAnd ρ (e' :: r) ro env1
    | .bl false => .ok (.bl false) env1
    | _ => .bad := by rw [evAnd] <;> first | rfl | simp
@[simp ↓] theorem wp_evAnd_cons {e e' : IE} {r : List IE} {Q : W → Env → Prop} {X : ExC} : (evAnd ρ (e :: e' :: r) ro env).wp Q X = R.wp ((ev ρ e ro env).bind fun x env1 => match x with
    | .bl true => evAnd ρ (e' :: r) ro env1
    | .bl false => .ok (.bl false) env1
    | _ => .bad) Q X := by rw [evAnd_cons]
theorem evOr_one {e : IE} : evOr ρ [e] ro env = ev ρ e ro env := by rw [evOr] <;> rfl
@[simp ↓] theorem wp_evOr_one {e : IE} {Q : W → Env → Prop} {X : ExC} : (evOr ρ [e] ro env).wp Q X = R.wp (ev ρ e ro env) Q X := by rw [evOr_one]
theorem evOr_cons {e e' : IE} {r : List IE} : evOr ρ (e :: e' :: r) ro env = (ev ρ e ro env).bind fun x env1 => match x with
    | .bl true => .ok (.bl true) env1
    | .bl false => evOr ρ (e' :: r) ro env1
    | _ => .bad := by rw [evOr] <;> first | rfl | simp
@[simp ↓] theorem wp_evOr_cons {e e' : IE} {r : List IE} {Q : W → Env → Prop} {X : ExC} : (evOr ρ (e :: e' :: r) ro env).wp Q X = R.wp ((ev ρ e ro env).bind fun x env1 => match x with
    | .bl true => .ok (.bl true) env1
    | .bl false => evOr ρ (e' :: r) ro env1
    | _ => .bad) Q X := by rw [evOr_cons]
theorem evT_ands {es : List IT} : evT ρ (.ands es) ro env = evTand ρ es ro env := by rw [evT] <;> rfl
@[simp ↓] theorem wp_evT_ands {es : List IT} {Q : Bool → Env → Prop} {X : ExC} : (evT ρ (.ands es) ro env).wp Q X = R.wp (evTand ρ es ro env) Q X := by rw [evT_ands]
theorem evT_ors {es : List IT} : evT ρ (.ors es) ro env = evTor ρ es ro env := by rw [evT] <;> rfl
@[simp ↓] theorem wp_evT_ors {es : List IT} {Q : Bool → Env → Prop} {X : ExC} : (evT ρ (.ors es) ro env).wp Q X = R.wp (evTor ρ es ro env) Q X := by rw [evT_ors]
theorem evT_dnot {a : IT} : evT ρ (.dnot a) ro env = (evT ρ a ro env).bind fun k env1 => .ok (!k) env1 := by rw [evT] <;> rfl
@[simp ↓] theorem wp_evT_dnot {a : IT} {Q : Bool → Env → Prop} {X : ExC} : (evT ρ (.dnot a) ro env).wp Q X = R.wp ((evT ρ a ro env).bind fun k env1 => .ok (!k) env1) Q X := by rw [evT_dnot]
theorem evT_lend {xs : List Nat} {e : IT} : evT ρ (.lend xs e) ro env = withE (lendE env ro xs) fun e1 r1 => backB env xs (evT ρ e r1 e1) := by rw [evT]; rfl
@[simp ↓] theorem wp_evT_lend {xs : List Nat} {e : IT} {Q : Bool → Env → Prop} {X : ExC} : (evT ρ (.lend xs e) ro env).wp Q X = R.wp (withE (lendE env ro xs) fun e1 r1 => backB env xs (evT ρ e r1 e1)) Q X := by rw [evT_lend]
theorem evT_val {e : IE} : evT ρ (.val e) ro env = (ev ρ e ro env).bind fun x env1 => R.opt x.truth env1 := by rw [evT] <;> rfl
@[simp ↓] theorem wp_evT_val {e : IE} {Q : Bool → Env → Prop} {X : ExC} : (evT ρ (.val e) ro env).wp Q X = R.wp ((ev ρ e ro env).bind fun x env1 => R.opt x.truth env1) Q X := by rw [evT_val]
theorem evTand_nil : evTand ρ [] ro env = .ok true env := by rw [evTand] <;> rfl
@[simp ↓] theorem wp_evTand_nil {Q : Bool → Env → Prop} {X : ExC} : (evTand ρ [] ro env).wp Q X = R.wp (.ok true env) Q X := by rw [evTand_nil]
theorem evTand_cons {e : IT} {r : List IT} : evTand ρ (e :: r) ro env = (evT ρ e ro env).bind fun k env1 => if k then evTand ρ r ro env1 else .ok false env1 := by rw [evTand] <;> rfl
@[simp ↓] theorem wp_evTand_cons {e : IT} {r : List IT} {Q : Bool → Env → Prop} {X : ExC} : (evTand ρ (e :: r) ro env).wp Q X = R.wp ((evT ρ e ro env).bind fun k env1 => if k then evTand ρ r ro env1 else .ok false env1) Q X := by rw [evTand_cons]
theorem evTor_nil : evTor ρ [] ro env = .ok false env := by rw [evTor] <;> rfl
@[simp ↓] theorem wp_evTor_nil {Q : Bool → Env → Prop} {X : ExC} : (evTor ρ [] ro env).wp Q X = R.wp (.ok false env) Q X := by rw [evTor_nil]
theorem evTor_cons {e : IT} {r : List IT} : evTor ρ (e :: r) ro env = (evT ρ e ro env).bind fun k env1 => if k then .ok true env1 else evTor ρ r ro env1 := by rw [evTor] <;> rfl
@[simp ↓] theorem wp_evTor_cons {e : IT} {r : List IT} {Q : Bool → Env → Prop} {X : ExC} : (evTor ρ (e :: r) ro env).wp Q X = R.wp ((evT ρ e ro env).bind fun k env1 => if k then .ok true env1 else evTor ρ r ro env1) Q X := by rw [evTor_cons]
theorem evIt_val {e : IE} : evIt ρ (.val e) ro env = (ev ρ e ro env).bind fun w env1 => bindE w.seq? fun ws => if hasL Fl.isOwn ws then .bad else .ok ws env1 := by rw [evIt] <;> rfl
@[simp ↓] theorem wp_evIt_val {e : IE} {Q : List W → Env → Prop} {X : ExC} : (evIt ρ (.val e) ro env).wp Q X = R.wp ((ev ρ e ro env).bind fun w env1 => bindE w.seq? fun ws => if hasL Fl.isOwn ws then .bad else .ok ws env1) Q X := by rw [evIt_val]
theorem evIt_rng1 {a : IE} : evIt ρ (.rng1 a) ro env = (ev ρ a ro env).bind fun x env1 => R.opt (rng1F x) env1 := by rw [evIt] <;> rfl
@[simp ↓] theorem wp_evIt_rng1 {a : IE} {Q : List W → Env → Prop} {X : ExC} : (evIt ρ (.rng1 a) ro env).wp Q X = R.wp ((ev ρ a ro env).bind fun x env1 => R.opt (rng1F x) env1) Q X := by rw [evIt_rng1]
theorem evIt_rng2 {a b : IE} : evIt ρ (.rng2 a b) ro env = (ev ρ a ro env).bind fun x env1 => (ev ρ b ro env1).bind fun y env2 => R.opt (rng2F x y) env2 := by rw [evIt] <;> rfl
@[simp ↓] theorem wp_evIt_rng2 {a b : IE} {Q : List W → Env → Prop} {X : ExC} : (evIt ρ (.rng2 a b) ro env).wp Q X = R.wp ((ev ρ a ro env).bind fun x env1 => (ev ρ b ro env1).bind fun y env2 => R.opt (rng2F x y) env2) Q X := by rw [evIt_rng2]
theorem evIt_enum {e : IE} : evIt ρ (.enum e) ro env = (ev ρ e ro env).bind fun w env1 => bindE w.lst? fun ws => if hasL Fl.isOwn ws then .bad else .ok (ws.mapIdx fun i x => .tup [.int i, x]) env1 := by rw [evIt] <;> rfl
@[simp ↓] theorem wp_evIt_enum {e : IE} {Q : List W → Env → Prop} {X : ExC} : (evIt ρ (.enum e) ro env).wp Q X = R.wp ((ev ρ e ro env).bind fun w env1 => bindE w.lst? fun ws => if hasL Fl.isOwn ws then .bad else .ok (ws.mapIdx fun i x => .tup [.int i, x]) env1) Q X := by rw [evIt_enum]
theorem evIt_zip {a b : IE} : evIt ρ (.zip a b) ro env = (ev ρ a ro env).bind fun x env1 => (ev ρ b ro env1).bind fun y env2 => bindE (zipS x y) fun p =>
      if hasL Fl.isOwn p.1 || hasL Fl.isOwn p.2 then .bad else .ok (List.zipWith (fun p q => .tup [p, q]) p.1 p.2) env2 := by rw [evIt] <;> rfl
@[simp ↓] theorem wp_evIt_zip {a b : IE} {Q : List W → Env → Prop} {X : ExC} : (evIt ρ (.zip a b) ro env).wp Q X = R.wp ((ev ρ a ro env).bind fun x env1 => (ev ρ b ro env1).bind fun y env2 => bindE (zipS x y) fun p =>
      if hasL Fl.isOwn p.1 || hasL Fl.isOwn p.2 then .bad else .ok (List.zipWith (fun p q => .tup [p, q]) p.1 p.2) env2) Q X := by rw [evIt_zip]
variable {lk : List Nat}
theorem evS_asg {t : Tg} {e : IE} : evS ρ lk (.asg t e) ro env = (ev ρ e ro env).st fun w env1 => oOpt (asgT lk t w ro env1) := by rw [evS] <;> rfl
@[simp ↓] theorem wp_evS_asg {t : Tg} {e : IE} {N B C : Env → Env → Prop} {T : W → Env → Prop} {X : ExC} : (evS ρ lk (.asg t e) ro env).wp N B C T X = O.wp ((ev ρ e ro env).st fun w env1 => oOpt (asgT lk t w ro env1)) N B C T X := by rw [evS_asg]
theorem evS_setx {i : Nat} {fs : List Ps} {ix e : IE} : evS ρ lk (.setx i fs ix e) ro env = (ev ρ e ro env).st fun w env1 => match env1[i]? with
    | some (some x) => stK (getP x fs) fun y => withE (lendE env1 ro [i]) fun e1 r1 => (ev ρ ix r1 e1).st fun k env3 => stK ((mutF .setix y [k, w]).bind fun p => setP x fs p.1) fun x' => .nx ro (env3.set i (some x'))
    | _ => .bad := by
  rw [evS]
  congr 1
  funext w env1
  cases env1[i]? with
  | none => rfl
  | some o =>
    cases o with
    | none => rfl
    | some x =>
      cases h : getP x fs with
      | none => simp only [stK, h]
      | some y =>
        simp only [stK, h, withE]
        refine congrArg _ (funext fun k => funext fun e => ?_)
        cases (mutF Mut.setix y [k, w]).bind fun p => setP x fs p.1 <;> rfl
@[simp ↓] theorem wp_evS_setx {i : Nat} {fs : List Ps} {ix e : IE} {N B C : Env → Env → Prop} {T : W → Env → Prop} {X : ExC} : (evS ρ lk (.setx i fs ix e) ro env).wp N B C T X = O.wp ((ev ρ e ro env).st fun w env1 => match env1[i]? with
    | some (some x) => stK (getP x fs) fun y => withE (lendE env1 ro [i]) fun e1 r1 => (ev ρ ix r1 e1).st fun k env3 => stK ((mutF .setix y [k, w]).bind fun p => setP x fs p.1) fun x' => .nx ro (env3.set i (some x'))
    | _ => .bad) N B C T X := by rw [evS_setx]
theorem evS_par2 {i j : Nat} {a b : IE} : evS ρ lk (.par2 i j a b) ro env = (evs ρ [a, b] ro env).st fun ws env1 => match ws with
    | [x, y] => match asgN lk i x ro env1 with
      | some (ro2, env2) => oOpt (asgN lk j y ro2 env2)
      | none => .bad
    | _ => .bad := by rw [evS] <;> rfl
@[simp ↓] theorem wp_evS_par2 {i j : Nat} {a b : IE} {N B C : Env → Env → Prop} {T : W → Env → Prop} {X : ExC} : (evS ρ lk (.par2 i j a b) ro env).wp N B C T X = O.wp ((evs ρ [a, b] ro env).st fun ws env1 => match ws with
    | [x, y] => match asgN lk i x ro env1 with
      | some (ro2, env2) => oOpt (asgN lk j y ro2 env2)
      | none => .bad
    | _ => .bad) N B C T X := by rw [evS_par2]
theorem evS_par3 {i j l : Nat} {a b c : IE} : evS ρ lk (.par3 i j l a b c) ro env = (evs ρ [a, b, c] ro env).st fun ws env1 => match ws with
    | [x, y, z] => match asgN lk i x ro env1 with
      | some (ro2, env2) => match asgN lk j y ro2 env2 with
        | some (ro3, env3) => oOpt (asgN lk l z ro3 env3)
        | none => .bad
      | none => .bad
    | _ => .bad := by rw [evS] <;> rfl
@[simp ↓] theorem wp_evS_par3 {i j l : Nat} {a b c : IE} {N B C : Env → Env → Prop} {T : W → Env → Prop} {X : ExC} : (evS ρ lk (.par3 i j l a b c) ro env).wp N B C T X = O.wp ((evs ρ [a, b, c] ro env).st fun ws env1 => match ws with
    | [x, y, z] => match asgN lk i x ro env1 with
      | some (ro2, env2) => match asgN lk j y ro2 env2 with
        | some (ro3, env3) => oOpt (asgN lk l z ro3 env3)
        | none => .bad
      | none => .bad
    | _ => .bad) N B C T X := by rw [evS_par3]
theorem evS_expr {e : IE} : evS ρ lk (.expr e) ro env = (ev ρ e ro env).st fun _ env1 => .nx ro env1 := by rw [evS] <;> rfl
@[simp ↓] theorem wp_evS_expr {e : IE} {N B C : Env → Env → Prop} {T : W → Env → Prop} {X : ExC} : (evS ρ lk (.expr e) ro env).wp N B C T X = O.wp ((ev ρ e ro env).st fun _ env1 => .nx ro env1) N B C T X := by rw [evS_expr]
theorem evS_ifs {c : IT} {a b : List IS} : evS ρ lk (.ifs c a b) ro env = (evT ρ c ro env).st fun k env1 => if k then evSs ρ lk a ro env1 else evSs ρ lk b ro env1 := by rw [evS] <;> rfl
@[simp ↓] theorem wp_evS_ifs {c : IT} {a b : List IS} {N B C : Env → Env → Prop} {T : W → Env → Prop} {X : ExC} : (evS ρ lk (.ifs c a b) ro env).wp N B C T X = O.wp ((evT ρ c ro env).st fun k env1 => if k then evSs ρ lk a ro env1 else evSs ρ lk b ro env1) N B C T X := by rw [evS_ifs]
theorem evS_fors {t : Tg} {it : It} {body : List IS} : evS ρ lk (.fors t it body) ro env = (evIt ρ it ro env).st fun items env1 => forL (asgT lk t) (evSs ρ lk body) items ro env1 := by rw [evS] <;> rfl
@[simp ↓] theorem wp_evS_fors {t : Tg} {it : It} {body : List IS} {N B C : Env → Env → Prop} {T : W → Env → Prop} {X : ExC} : (evS ρ lk (.fors t it body) ro env).wp N B C T X = O.wp ((evIt ρ it ro env).st fun items env1 => forL (asgT lk t) (evSs ρ lk body) items ro env1) N B C T X := by rw [evS_fors]
theorem evS_whl {c : IT} {body : List IS} : evS ρ lk (.whl c body) ro env = whlL (evT ρ c) (evSs ρ lk body) wFuel ro env := by rw [evS] <;> rfl
@[simp ↓] theorem wp_evS_whl {c : IT} {body : List IS} {N B C : Env → Env → Prop} {T : W → Env → Prop} {X : ExC} : (evS ρ lk (.whl c body) ro env).wp N B C T X = O.wp (whlL (evT ρ c) (evSs ρ lk body) wFuel ro env) N B C T X := by rw [evS_whl]
theorem evS_ret {e : IE} : evS ρ lk (.ret e) ro env = (ev ρ e ro env).st fun w env1 => if w.lnt? then .bad else .rt w env1 := by rw [evS] <;> rfl
@[simp ↓] theorem wp_evS_ret {e : IE} {N B C : Env → Env → Prop} {T : W → Env → Prop} {X : ExC} : (evS ρ lk (.ret e) ro env).wp N B C T X = O.wp ((ev ρ e ro env).st fun w env1 => if w.lnt? then .bad else .rt w env1) N B C T X := by rw [evS_ret]
theorem evS_retn : evS ρ lk .retn ro env = .rt .non env := by rw [evS] <;> rfl
@[simp ↓] theorem wp_evS_retn {N B C : Env → Env → Prop} {T : W → Env → Prop} {X : ExC} : (evS ρ lk .retn ro env).wp N B C T X = O.wp (.rt .non env) N B C T X := by rw [evS_retn]
theorem evS_brk : evS ρ lk .brk ro env = .bk ro env := by rw [evS] <;> rfl
@[simp ↓] theorem wp_evS_brk {N B C : Env → Env → Prop} {T : W → Env → Prop} {X : ExC} : (evS ρ lk .brk ro env).wp N B C T X = O.wp (.bk ro env) N B C T X := by rw [evS_brk]
theorem evS_cnt : evS ρ lk .cnt ro env = .ct ro env := by rw [evS] <;> rfl
@[simp ↓] theorem wp_evS_cnt {N B C : Env → Env → Prop} {T : W → Env → Prop} {X : ExC} : (evS ρ lk .cnt ro env).wp N B C T X = O.wp (.ct ro env) N B C T X := by rw [evS_cnt]
theorem evS_pass : evS ρ lk .pass ro env = .nx ro env := by rw [evS] <;> rfl
@[simp ↓] theorem wp_evS_pass {N B C : Env → Env → Prop} {T : W → Env → Prop} {X : ExC} : (evS ρ lk .pass ro env).wp N B C T X = O.wp (.nx ro env) N B C T X := by rw [evS_pass]
theorem evS_bad : evS ρ lk .bad ro env = .bad := by rw [evS] <;> rfl
@[simp ↓] theorem wp_evS_bad {N B C : Env → Env → Prop} {T : W → Env → Prop} {X : ExC} : (evS ρ lk .bad ro env).wp N B C T X = O.wp (.bad) N B C T X := by rw [evS_bad]
theorem evS_frz {i : Nat} {fs : List Ps} : evS ρ lk (.frz i fs) ro env = match env[i]? with
    | some (some w) => match frzP w fs with
      | some w' => .nx ro (env.set i (some w'))
      | none => .bad
    | _ => .nx ro env := by rw [evS] <;> rfl
@[simp ↓] theorem wp_evS_frz {i : Nat} {fs : List Ps} {N B C : Env → Env → Prop} {T : W → Env → Prop} {X : ExC} : (evS ρ lk (.frz i fs) ro env).wp N B C T X = O.wp (match env[i]? with
    | some (some w) => match frzP w fs with
      | some w' => .nx ro (env.set i (some w'))
      | none => .bad
    | _ => .nx ro env) N B C T X := by rw [evS_frz]
theorem evS_lend {xs ks : List Nat} {body : IS} : evS ρ lk (.lend xs ks body) ro env = withE (lendE env ro xs) fun e1 r1 => backO env ro xs (lk ++ ks) (evS ρ (lk ++ ks ++ xs) body r1 e1) := by rw [evS] <;> rfl
@[simp ↓] theorem wp_evS_lend {xs ks : List Nat} {body : IS} {N B C : Env → Env → Prop} {T : W → Env → Prop} {X : ExC} : (evS ρ lk (.lend xs ks body) ro env).wp N B C T X = O.wp (withE (lendE env ro xs) fun e1 r1 => backO env ro xs (lk ++ ks) (evS ρ (lk ++ ks ++ xs) body r1 e1)) N B C T X := by rw [evS_lend]
theorem evSs_nil : evSs ρ lk [] ro env = .nx ro env := by rw [evSs] <;> rfl
@[simp ↓] theorem wp_evSs_nil {N B C : Env → Env → Prop} {T : W → Env → Prop} {X : ExC} : (evSs ρ lk [] ro env).wp N B C T X = O.wp (.nx ro env) N B C T X := by rw [evSs_nil]
theorem evSs_cons {st : IS} {r : List IS} : evSs ρ lk (st :: r) ro env = (evS ρ lk st ro env).seq fun ro1 env1 => evSs ρ lk r ro1 env1 := by rw [evSs] <;> rfl
@[simp ↓] theorem wp_evSs_cons {st : IS} {r : List IS} {N B C : Env → Env → Prop} {T : W → Env → Prop} {X : ExC} : (evSs ρ lk (st :: r) ro env).wp N B C T X = O.wp ((evS ρ lk st ro env).seq fun ro1 env1 => evSs ρ lk r ro1 env1) N B C T X := by rw [evSs_cons]
end
/-! ## slots -/
section
variable {ro env : Env}
@[simp] theorem lendE_nil : lendE env ro [] = (env, ro) := (rfl)
@[simp] theorem lendE_cons {x : Nat} {r : List Nat} : lendE env ro (x :: r) = match env[x]? with
    | some (some w) => lendE (env.set x none) (ro.set x (some w.lend)) r
    | _ => lendE (env.set x none) ro r := rfl
@[simp] theorem backE_nil {old : Env} : backE old env [] = env := (rfl)
@[simp] theorem backE_cons {old : Env} {x : Nat} {r : List Nat} : backE old env (x :: r) = match old[x]? with
    | some (some w) => backE (old.set x none) (env.set x (some w)) r
    | _ => backE (old.set x none) env r := by rw [backE] <;> rfl
@[simp] theorem wipeE_nil : wipeE env [] = env := (rfl)
@[simp] theorem wipeE_cons {v : Nat} {vs : List Nat} : wipeE env (v :: vs) = wipeE (env.set v none) vs := (rfl)
@[simp] theorem asgT_name {lk : List Nat} {i : Nat} {w : W} : asgT lk (.name i) w ro env = asgN lk i w ro env := by rw [asgT] <;> rfl
@[simp] theorem asgT_tup {lk : List Nat} {ts : List Tg} {w : W} : asgT lk (.tup ts) w ro env = match w with
    | .tup ws => asgTs lk ts ws ro env
    | _ => none := by cases w <;> (rw [asgT] <;> simp)
@[simp] theorem asgT_fld {lk : List Nat} {i f : Nat} {fs : List Ps} {w : W} : asgT lk (.fld i fs f) w ro env = match env[i]? with
    | some (some x) => ((getP x fs).bind fun y => (mutF (.setf f) y [w]).bind fun p => setP x fs p.1).map fun x' => (ro, env.set i (some x'))
    | _ => none := by rw [asgT] <;> rfl
@[simp] theorem asgTs_nil {lk : List Nat} : asgTs lk [] [] ro env = some (ro, env) := by rw [asgTs] <;> rfl
@[simp] theorem asgTs_cons {lk : List Nat} {t : Tg} {ts : List Tg} {w : W} {ws : List W} : asgTs lk (t :: ts) (w :: ws) ro env = (asgT lk t w ro env).bind fun p => asgTs lk ts ws p.1 p.2 := by
  rw [asgTs]; cases asgT lk t w ro env <;> rfl
@[simp] theorem asgN_eq {lk : List Nat} {i : Nat} {w : W} : asgN lk i w ro env = if lk.contains i then none else
  if w.lnt? then (if w.own? then none else some (ro.set i (some w), env.set i none)) else some (ro.set i none, env.set i (some w)) := rfl
@[simp] theorem modeW_nil : modeW [] [] = some [] := (rfl)
@[simp] theorem modeW_lent {m : List Md} {w : W} {r : List W} : modeW (.lent :: m) (w :: r) = (modeW m r).map (w.lend :: ·) := (rfl)
@[simp] theorem modeW_bor {m : List Md} {w : W} {r : List W} : modeW (.bor :: m) (w :: r) = if w.lnt? then none else (modeW m r).map (w :: ·) := (rfl)
@[simp] theorem modeW_own {m : List Md} {w : W} {r : List W} : modeW (.own :: m) (w :: r) = if w.lnt? then none else (modeW m r).map (w :: ·) := (rfl)
def isBor : IE → Option Nat
  | .bor i => some i
  | _ => none
@[simp] theorem takeB_nil : takeB [] [] env = some ([], env) := (rfl)
@[simp] theorem takeB_cons {a : IE} {as : List IE} {x : W} {ws : List W} : takeB (a :: as) (x :: ws) env = match a with
    | .bor i => match env[i]? with
      | some (some w) => (takeB as ws (env.set i none)).map fun p => (w :: p.1, p.2)
      | _ => none
    | _ => (takeB as ws env).map fun p => (x :: p.1, p.2) := by cases a <;> first | rfl | (rw [takeB] <;> simp)
theorem putBack_eq {a : IE} {as : List IE} {b : Option W} {bs : Env} : putBack (a :: as) (b :: bs) env = match a, b with
    | .bor i, some w => putBack as bs (env.set i (some w))
    | _, _ => putBack as bs env := by
  cases a <;> cases b <;> simp [putBack]
end
/-! ## calls -/
def retB (as : List IE) (env : Env) (r : R W) : R W := match r with
  | .ok w bs => .ok w (putBack as bs env)
  | .ex c w bs => .ex c w (putBack as bs env)
  | .bad => .bad
@[simp ↓] theorem R.wp_retB {as : List IE} {env : Env} {r : R W} {Q : W → Env → Prop} {X : ExC} : (retB as env r).wp Q X = r.wp (fun w bs => Q w (putBack as bs env)) (fun c w bs => X c w (putBack as bs env)) := by
  cases r <;> rfl
def retM (as : List IE) (env : Env) (r : R W) : R W := match r with
  | .ok .non (some w :: bs) => .ok w (putBack as bs env)
  | .ex e w (_ :: bs) => .ex e w (putBack as bs env)
  | _ => .bad
theorem R.wp_retM {as : List IE} {env : Env} {r : R W} {Q : W → Env → Prop} {X : ExC} (h : r.wp (fun u bs => ∃ w bs', u = .non ∧ bs = some w :: bs' ∧ Q w (putBack as bs' env)) (fun c u bs => ∃ b bs', bs = b :: bs' ∧ X c u (putBack as bs' env))) : (retM as env r).wp Q X := by
  cases r with
  | ok w bs => obtain ⟨w', bs', rfl, rfl, h⟩ := h; exact h
  | ex c w bs => obtain ⟨b, bs', rfl, h⟩ := h; exact h
  | bad => exact h
section
variable {F : Fn} {as : List IE} {ws : List W} {env : Env} {c : Nat}
theorem callFn_eq : callFn F as ws env = bindE (takeB as ws env) fun p => bindE (modeW F.md p.1) fun us => retB as p.2 (F.run us) := rfl
theorem makeFn_eq : makeFn F c as ws env = bindE (takeB as ws env) fun p => bindE (modeW F.md (.ins .own c [] :: p.1)) fun us => retM as p.2 (F.run us) := rfl
@[simp ↓] theorem wp_callFn {Q : W → Env → Prop} {X : ExC} : (callFn F as ws env).wp Q X = (bindK (takeB as ws env) fun p => bindK (modeW F.md p.1) fun us => retB as p.2 (F.run us)).wp Q X := (rfl)
@[simp ↓] theorem wp_makeFn {Q : W → Env → Prop} {X : ExC} : (makeFn F c as ws env).wp Q X = (bindK (takeB as ws env) fun p => bindK (modeW F.md (.ins .own c [] :: p.1)) fun us => retM as p.2 (F.run us)).wp Q X := (rfl)
end
@[simp] theorem putBack_nil {bs env : Env} : putBack [] bs env = env := by cases bs <;> rfl
@[simp] theorem putBack_bor {i : Nat} {as : List IE} {w : W} {bs env : Env} : putBack (.bor i :: as) (some w :: bs) env = putBack as bs (env.set i (some w)) := (rfl)
@[simp] theorem putBack_none {a : IE} {as : List IE} {bs env : Env} : putBack (a :: as) (none :: bs) env = putBack as bs env := by cases a <;> rfl
/-! ## loops -/
theorem forL_wp {asg : W → Env → Env → Option (Env × Env)} {body : Env → Env → O} {N B C : Env → Env → Prop} {T : W → Env → Prop} {X : ExC} (I : Nat → Env → Env → Prop) : ∀ {items : List W} {ro env : Env}, I 0 ro env →
    (∀ k x ro env, items[k]? = some x → I k ro env → (asgK (asg x ro env) body).wp (I (k + 1)) N (I (k + 1)) T X) → (∀ ro env, I items.length ro env → N ro env) → (forL asg body items ro env).wp N B C T X := by
  suffices H : ∀ (items : List W) (n : Nat) (ro env : Env), I n ro env → (∀ k x ro env, items[k]? = some x → I (n + k) ro env → (asgK (asg x ro env) body).wp (I (n + k + 1)) N (I (n + k + 1)) T X) → (∀ ro env, I (n + items.length) ro env → N ro env) → (forL asg body items ro env).wp N B C T X by
    intro items ro env h0 step fin
    exact H items 0 ro env h0 (fun k x ro env e h => by rw [Nat.zero_add] at h ⊢; exact step k x ro env e h) fun ro env h => fin ro env (by rw [Nat.zero_add] at h; exact h)
  intro items
  induction items with
  | nil => exact fun n ro env h0 _ fin => fin ro env h0
  | cons x r ih =>
    intro n ro env h0 step fin
    have s := step 0 x ro env rfl h0
    unfold forL
    cases ea : asg x ro env with
    | none => rw [ea] at s; exact s
    | some p =>
      obtain ⟨ro1, env1⟩ := p
      rw [ea, O.wp_asgK] at s
      have go : ∀ ro2 env2, I (n + 0 + 1) ro2 env2 → (forL asg body r ro2 env2).wp N B C T X := fun ro2 env2 h => ih (n + 1) ro2 env2 h (fun k y ro env e h => by
        have := step (k + 1) y ro env (by simpa using e) (by rw [show n + (k + 1) = n + 1 + k by omega]; exact h)
        rw [show n + (k + 1) + 1 = n + 1 + k + 1 by omega] at this
        exact this) fun ro env h => fin ro env (by rw [List.length_cons, show n + (r.length + 1) = n + 1 + r.length by omega]; exact h)
      show O.wp (match body ro1 env1 with
        | .nx ro2 env2 => forL asg body r ro2 env2
        | .ct ro2 env2 => forL asg body r ro2 env2
        | .bk ro2 env2 => .nx ro2 env2
        | o => o) N B C T X
      cases eb : body ro1 env1 with
      | nx a b => rw [eb] at s; exact go _ _ s
      | ct a b => rw [eb] at s; exact go _ _ s
      | bk a b => rw [eb] at s; exact s
      | rt a b => rw [eb] at s; exact s
      | ex c a b => rw [eb] at s; exact s
      | bad => rw [eb] at s; exact s
theorem compLoop_wp {step : W → Env → R (Option W)} {Q : List W → Env → Prop} {X : ExC} (I : Nat → List W → Env → Prop) : ∀ {items acc : List W} {env : Env}, I 0 acc env →
    (∀ k x acc env, items[k]? = some x → I k acc env → (step x env).wp (fun o env' => match o with | some w => acc.length < szLine ∧ I (k + 1) (acc ++ [w]) env' | none => I (k + 1) acc env') X) → (∀ ws env, I items.length ws env → Q ws env) → (compLoop step items acc env).wp Q X := by
  suffices H : ∀ (items : List W) (n : Nat) (acc : List W) (env : Env), I n acc env → (∀ k x acc env, items[k]? = some x → I (n + k) acc env → (step x env).wp (fun o env' => match o with | some w => acc.length < szLine ∧ I (n + k + 1) (acc ++ [w]) env' | none => I (n + k + 1) acc env') X) → (∀ ws env, I (n + items.length) ws env → Q ws env) → (compLoop step items acc env).wp Q X by
    intro items acc env h0 st fin
    exact H items 0 acc env h0 (fun k x acc env e h => by rw [Nat.zero_add] at h ⊢; exact st k x acc env e h) fun ro env h => fin ro env (by rw [Nat.zero_add] at h; exact h)
  intro items
  induction items with
  | nil => exact fun n acc env h0 _ fin => fin acc env h0
  | cons x r ih =>
    intro n acc env h0 st fin
    have s := st 0 x acc env rfl h0
    have go : ∀ acc env, I (n + 0 + 1) acc env → (compLoop step r acc env).wp Q X := fun acc env h => ih (n + 1) acc env h (fun k y acc env e h => by
        have := st (k + 1) y acc env (by simpa using e) (by rw [show n + (k + 1) = n + 1 + k by omega]; exact h)
        rw [show n + (k + 1) + 1 = n + 1 + k + 1 by omega] at this
        exact this) fun ws env h => fin ws env (by rw [List.length_cons, show n + (r.length + 1) = n + 1 + r.length by omega]; exact h)
    unfold compLoop
    rw [R.wp_bind]
    refine R.wp_mono s (fun o env' h => ?_) fun _ _ _ h => h
    cases o with
    | some w =>
      obtain ⟨h1, h2⟩ := h
      show R.wp (if acc.length < szLine then compLoop step r (acc ++ [w]) env' else .bad) Q X
      rw [if_pos h1]
      exact go _ _ h2
    | none => exact go _ _ h
theorem take_succ_at {α : Type} {l : List α} {k : Nat} {x : α} (h : l[k]? = some x) : l.take (k + 1) = l.take k ++ [x] := by
  rw [List.take_succ, h]; rfl
/-- a comprehension that changes no name -/
theorem comp_pure {step : W → Env → R (Option W)} {Q : List W → Env → Prop} {X : ExC} {items : List W} {env : Env} (f : W → Option W) (hs : items.length ≤ szLine) (h : ∀ (k : Nat) (x : W), items[k]? = some x → (step x env).wp (fun o env' => o = f x ∧ env' = env) noX) (fin : Q (items.filterMap f) env) :
    (compLoop step items [] env).wp Q X := by
  refine compLoop_wp (fun k acc env' => acc = (items.take k).filterMap f ∧ env' = env) ⟨by simp, rfl⟩ (fun k x acc env' e hI => ?_) fun ws env' hI => ?_
  · obtain ⟨rfl, rfl⟩ := hI
    have lt : k < items.length := (List.getElem?_eq_some_iff.mp e).1
    refine R.wp_of (h k x e) fun o env' ho => ?_
    obtain ⟨ho, rfl⟩ := ho
    rw [take_succ_at e, List.filterMap_append]
    cases q : f x with
    | none => rw [q] at ho; subst ho; exact ⟨by simp [q], rfl⟩
    | some w =>
      rw [q] at ho; subst ho
      refine ⟨?_, by simp [q], rfl⟩
      have := List.length_filterMap_le f (items.take k)
      rw [List.length_take] at this
      omega
  · obtain ⟨rfl, rfl⟩ := hI
    rw [List.take_length]; exact fin
theorem whlL_wp {test : Env → Env → R Bool} {body : Env → Env → O} {N B C : Env → Env → Prop} {T : W → Env → Prop} {X : ExC} (I : Nat → Env → Env → Prop)
    (step : ∀ n ro env, I n ro env → (test ro env).wp (fun k env1 => if k then (body ro env1).wp (fun ro env => ∃ m, m < n ∧ I m ro env) N (fun ro env => ∃ m, m < n ∧ I m ro env) T X else N ro env1) X) :
    ∀ (f n : Nat) (ro env : Env), n < f → I n ro env → (whlL test body f ro env).wp N B C T X := by
  intro f
  induction f with
  | zero => exact fun n ro env h => absurd h (Nat.not_lt_zero _)
  | succ f ih =>
    intro n ro env h h0
    unfold whlL
    rw [O.wp_st]
    refine R.wp_mono (step n ro env h0) (fun k env1 hk => ?_) fun _ _ _ h => h
    cases k with
    | false => exact hk
    | true =>
      have hk : (body ro env1).wp (fun ro env => ∃ m, m < n ∧ I m ro env) N (fun ro env => ∃ m, m < n ∧ I m ro env) T X := hk
      show O.wp (match body ro env1 with
        | .nx ro2 env2 => whlL test body f ro2 env2
        | .ct ro2 env2 => whlL test body f ro2 env2
        | .bk ro2 env2 => .nx ro2 env2
        | o => o) N B C T X
      cases eb : body ro env1 with
      | nx a b => rw [eb] at hk; obtain ⟨m, h1, h2⟩ := hk; exact ih m _ _ (by omega) h2
      | ct a b => rw [eb] at hk; obtain ⟨m, h1, h2⟩ := hk; exact ih m _ _ (by omega) h2
      | bk a b => rw [eb] at hk; exact hk
      | rt a b => rw [eb] at hk; exact hk
      | ex c a b => rw [eb] at hk; exact hk
      | bad => rw [eb] at hk; exact hk
/-- a def, from its body -/
theorem runDef_wp {ρ : Nat → Fn} {md : List Md} {n : Nat} {body : List IS} {ws : List W} {Q : W → Env → Prop} {X : ExC}
    (h : (evSs ρ (borS 0 md) body (roOf md ws ++ List.replicate (n - md.length) none) (envOf md ws ++ List.replicate (n - md.length) none)).wp (fun _ env => onE (keepB md env) fun e => Q .non e) (fun _ _ => False) (fun _ _ => False) (fun w env => onE (keepB md env) fun e => Q w e) (fun c w env => onE (keepB md env) fun e => X c w e)) : (runDef ρ md n body ws).wp Q X := by
  unfold runDef
  cases e : evSs ρ (borS 0 md) body (roOf md ws ++ List.replicate (n - md.length) none) (envOf md ws ++ List.replicate (n - md.length) none) with
  | nx a b => rw [e] at h; exact h
  | rt a b => rw [e] at h; exact h
  | ex c a b => rw [e] at h; exact h
  | bk a b => rw [e] at h; exact h.elim
  | ct a b => rw [e] at h; exact h.elim
  | bad => rw [e] at h; exact h.elim
@[simp] theorem keepB_nil {env : Env} : keepB [] env = [] := by cases env <;> rfl
@[simp] theorem keepB_bor {md : List Md} {w : Option W} {env : Env} : keepB (.bor :: md) (w :: env) = w :: keepB md env := (rfl)
@[simp] theorem keepB_lent {md : List Md} {w : Option W} {env : Env} : keepB (.lent :: md) (w :: env) = none :: keepB md env := (rfl)
@[simp] theorem keepB_own {md : List Md} {w : Option W} {env : Env} : keepB (.own :: md) (w :: env) = none :: keepB md env := (rfl)
@[simp] theorem roOf_nil {ws : List W} : roOf [] ws = [] := by cases ws <;> rfl
@[simp] theorem roOf_lent {md : List Md} {w : W} {r : List W} : roOf (.lent :: md) (w :: r) = some w :: roOf md r := (rfl)
@[simp] theorem roOf_bor {md : List Md} {w : W} {r : List W} : roOf (.bor :: md) (w :: r) = none :: roOf md r := (rfl)
@[simp] theorem roOf_own {md : List Md} {w : W} {r : List W} : roOf (.own :: md) (w :: r) = none :: roOf md r := (rfl)
@[simp] theorem envOf_nil {ws : List W} : envOf [] ws = [] := by cases ws <;> rfl
@[simp] theorem envOf_lent {md : List Md} {w : W} {r : List W} : envOf (.lent :: md) (w :: r) = none :: envOf md r := (rfl)
@[simp] theorem envOf_bor {md : List Md} {w : W} {r : List W} : envOf (.bor :: md) (w :: r) = some w :: envOf md r := (rfl)
@[simp] theorem envOf_own {md : List Md} {w : W} {r : List W} : envOf (.own :: md) (w :: r) = some w :: envOf md r := (rfl)
@[simp] theorem borS_nil {n : Nat} : borS n [] = [] := (rfl)
@[simp] theorem borS_bor {n : Nat} {m : List Md} : borS n (.bor :: m) = n :: borS (n + 1) m := (rfl)
@[simp] theorem borS_lent {n : Nat} {m : List Md} : borS n (.lent :: m) = borS (n + 1) m := (rfl)
@[simp] theorem borS_own {n : Nat} {m : List Md} : borS n (.own :: m) = borS (n + 1) m := (rfl)
/-! ## values -/
section
variable {p : Fl → Bool} {f : Fl → Fl}
@[simp] theorem has_non : W.non.has p = false := by rw [W.has]
@[simp] theorem has_bl {b : Bool} : (W.bl b).has p = false := by rw [W.has]
@[simp] theorem has_int {i : Int} : (W.int i).has p = false := by rw [W.has]
@[simp] theorem has_str {x : Str} : (W.str x).has p = false := by rw [W.has]
@[simp] theorem has_tup {ws : List W} : (W.tup ws).has p = hasL p ws := by rw [W.has]
@[simp] theorem has_lst {m : Fl} {ws : List W} : (W.lst m ws).has p = (p m || hasL p ws) := by rw [W.has]
@[simp] theorem has_dct {m : Fl} {ws : List (Key × W)} : (W.dct m ws).has p = (p m || hasK p ws) := by rw [W.has]
@[simp] theorem has_ins {m : Fl} {c : Nat} {ws : List (Nat × W)} : (W.ins m c ws).has p = (p m || hasF p ws) := by rw [W.has]
@[simp] theorem hasL_nil : hasL p [] = false := by rw [hasL]
@[simp] theorem hasL_cons {w : W} {r : List W} : hasL p (w :: r) = (w.has p || hasL p r) := by rw [hasL]
@[simp] theorem hasK_nil : hasK p [] = false := (rfl)
@[simp] theorem hasK_cons {k : Key} {w : W} {r : List (Key × W)} : hasK p ((k, w) :: r) = (w.has p || hasK p r) := (rfl)
@[simp] theorem hasF_nil : hasF p [] = false := by rw [hasF]
@[simp] theorem hasF_cons {k : Nat} {w : W} {r : List (Nat × W)} : hasF p ((k, w) :: r) = (w.has p || hasF p r) := by rw [hasF]
@[simp] theorem hasL_app {a b : List W} : hasL p (a ++ b) = (hasL p a || hasL p b) := by rw [hasL_eq, hasL_eq, hasL_eq, List.any_append]
@[simp] theorem mapF_non : W.non.mapF f = .non := by rw [W.mapF]
@[simp] theorem mapF_bl {b : Bool} : (W.bl b).mapF f = .bl b := by rw [W.mapF]
@[simp] theorem mapF_int {i : Int} : (W.int i).mapF f = .int i := by rw [W.mapF]
@[simp] theorem mapF_str {x : Str} : (W.str x).mapF f = .str x := by rw [W.mapF]
@[simp] theorem mapF_tup {ws : List W} : (W.tup ws).mapF f = .tup (mapL f ws) := by rw [W.mapF]
@[simp] theorem mapF_lst {m : Fl} {ws : List W} : (W.lst m ws).mapF f = .lst (f m) (mapL f ws) := by rw [W.mapF]
@[simp] theorem mapF_ins {m : Fl} {c : Nat} {ws : List (Nat × W)} : (W.ins m c ws).mapF f = .ins (f m) c (mapFs f ws) := by rw [W.mapF]
@[simp] theorem mapL_nil : mapL f [] = [] := by rw [mapL]
@[simp] theorem mapL_cons {w : W} {r : List W} : mapL f (w :: r) = w.mapF f :: mapL f r := by rw [mapL]
@[simp] theorem mapF_dct {m : Fl} {kvs : List (Key × W)} : (W.dct m kvs).mapF f = .dct (f m) (mapK f kvs) := by rw [W.mapF]
@[simp] theorem mapK_nil : mapK f [] = [] := (rfl)
@[simp] theorem mapK_cons {k : Key} {w : W} {r : List (Key × W)} : mapK f ((k, w) :: r) = (k, w.mapF f) :: mapK f r := (rfl)
@[simp] theorem mapFs_nil : mapFs f [] = [] := by rw [mapFs]
@[simp] theorem mapFs_cons {k : Nat} {w : W} {r : List (Nat × W)} : mapFs f ((k, w) :: r) = (k, w.mapF f) :: mapFs f r := by rw [mapFs]
@[simp] theorem isOwn_own : Fl.isOwn .own = true := (rfl)
@[simp] theorem isOwn_frz : Fl.isOwn .frz = false := (rfl)
@[simp] theorem isOwn_lnt : Fl.isOwn .lnt = false := (rfl)
@[simp] theorem isLnt_own : Fl.isLnt .own = false := (rfl)
@[simp] theorem isLnt_frz : Fl.isLnt .frz = false := (rfl)
@[simp] theorem isLnt_lnt : Fl.isLnt .lnt = true := (rfl)
@[simp] theorem isMut_own : Fl.isMut .own = true := (rfl)
@[simp] theorem isMut_frz : Fl.isMut .frz = false := (rfl)
@[simp] theorem isMut_lnt : Fl.isMut .lnt = true := (rfl)
@[simp] theorem toLnt_own : Fl.toLnt .own = .lnt := (rfl)
@[simp] theorem toLnt_frz : Fl.toLnt .frz = .frz := (rfl)
@[simp] theorem toLnt_lnt : Fl.toLnt .lnt = .lnt := (rfl)
@[simp] theorem toFrz_eq {m : Fl} : Fl.toFrz m = .frz := (rfl)
@[simp] theorem hasL_ints {ns : List Int} : hasL p (ns.map W.int) = false := by
  induction ns with
  | nil => rfl
  | cons n r ih => rw [List.map_cons, hasL_cons, ih, has_int]; rfl
@[simp] theorem mapL_ints {ns : List Int} : mapL f (ns.map W.int) = ns.map W.int := by
  induction ns with
  | nil => rfl
  | cons n r ih => rw [List.map_cons, mapL_cons, ih, mapF_int]
/-- an int, or none -/
def wO : Option Int → W
  | none => .non
  | some i => .int i
@[simp] theorem wO_none : wO none = .non := (rfl)
@[simp] theorem wO_some {i : Int} : wO (some i) = .int i := (rfl)
@[simp] theorem has_wO {o : Option Int} : (wO o).has p = false := by cases o <;> simp
@[simp] theorem mapF_wO {o : Option Int} : (wO o).mapF f = wO o := by cases o <;> simp
theorem hasL_map {α : Type} {g : α → W} : ∀ {l : List α}, (∀ x ∈ l, (g x).has p = false) → hasL p (l.map g) = false
  | [], _ => hasL_nil
  | x :: r, h => by rw [List.map_cons, hasL_cons, h x (by simp), hasL_map fun y hy => h y (by simp [hy])]; rfl
theorem mapL_map {α : Type} {g : α → W} : ∀ {l : List α}, (∀ x ∈ l, (g x).mapF f = g x) → mapL f (l.map g) = l.map g
  | [], _ => mapL_nil
  | x :: r, h => by rw [List.map_cons, mapL_cons, h x (by simp), mapL_map fun y hy => h y (by simp [hy])]
@[simp] theorem hasL_wO {ns : List (Option Int)} : hasL p (ns.map wO) = false := hasL_map fun _ _ => has_wO
@[simp] theorem mapL_wO {ns : List (Option Int)} : mapL f (ns.map wO) = ns.map wO := mapL_map fun _ _ => mapF_wO
end
section
variable {α : Type} {X : ExC} {env : Env}
@[simp] theorem R.wp_optopt {b : Bool} {a : α} {Q : α → Env → Prop} : (R.opt (VL.opt b a) env).wp Q X = (b = true ∧ Q a env) := by
  unfold VL.opt; cases b <;> simp
@[simp] theorem R.wp_bindopt {β : Type} {b : Bool} {a : β} {k : β → R α} {Q : α → Env → Prop} : (bindK (VL.opt b a) k).wp Q X = (b = true ∧ (k a).wp Q X) := by
  unfold VL.opt; cases b <;> simp
@[simp] theorem bin_add {i j : Int} : binF .add (.int i) (.int j) = some (.int (i + j)) := (rfl)
@[simp] theorem bin_sub {i j : Int} : binF .sub (.int i) (.int j) = some (.int (i - j)) := (rfl)
@[simp] theorem bin_mul {i j : Int} : binF .mul (.int i) (.int j) = opt (decide (i.natAbs.log2 + j.natAbs.log2 < 1000000)) (.int (i * j)) := (rfl)
@[simp] theorem bin_fdiv {i j : Int} : binF .fdiv (.int i) (.int j) = opt (decide (0 < j) && decide (j.natAbs.log2 < 9000)) (.int (i / j)) := (rfl)
@[simp] theorem bin_mod {i j : Int} : binF .mod (.int i) (.int j) = opt (decide (0 < j)) (.int (i % j)) := (rfl)
@[simp] theorem bin_pow {i j : Int} : binF .pow (.int i) (.int j) = opt (decide (0 ≤ j) && decide (j ≤ 1000) && decide (i.natAbs.log2 < 1000)) (.int (i ^ j.toNat)) := (rfl)
@[simp] theorem bin_addL {m n : Fl} {a b : List W} : binF .add (.lst m a) (.lst n b) = opt (!hasL Fl.isMut a && !hasL Fl.isMut b && decide (a.length + b.length ≤ szLine)) (.lst .own (a ++ b)) := (rfl)
@[simp] theorem bin_addT {a b : List W} : binF .add (.tup a) (.tup b) = opt (!hasL Fl.isMut a && !hasL Fl.isMut b && decide (a.length + b.length ≤ szLine)) (.tup (a ++ b)) := (rfl)
@[simp] theorem bin_mulL {a : List W} {k : Int} : binF .mul (.lst .own a) (.int k) = opt (!hasL Fl.isMut a && decide (-(2 ^ 62) ≤ k) && decide (k < 2 ^ 62) && decide (a.length * k.toNat ≤ szLine)) (.lst .own (List.replicate k.toNat a).flatten) := (rfl)
@[simp] theorem cmp_lt {i j : Int} : cmpF .lt (.int i) (.int j) = some (decide (i < j)) := (rfl)
@[simp] theorem cmp_le {i j : Int} : cmpF .le (.int i) (.int j) = some (decide (i ≤ j)) := (rfl)
@[simp] theorem cmp_gt {i j : Int} : cmpF .gt (.int i) (.int j) = some (decide (j < i)) := (rfl)
@[simp] theorem cmp_ge {i j : Int} : cmpF .ge (.int i) (.int j) = some (decide (j ≤ i)) := (rfl)
@[simp] theorem cmp_eq {a b : W} : cmpF .eq a b = eqF a b := by cases a <;> rfl
@[simp] theorem cmp_ne {a b : W} : cmpF .ne a b = (eqF a b).map (!·) := by cases a <;> rfl
@[simp] theorem cmp_is {w : W} : cmpF .isn w .non = some (match w with | .non => true | _ => false) := by cases w <;> rfl
@[simp] theorem cmp_isn {w : W} : cmpF .inn2 w .non = some (match w with | .non => false | _ => true) := by cases w <;> rfl
@[simp] theorem truth_non : W.non.truth = some false := (rfl)
@[simp] theorem truth_bl {b : Bool} : (W.bl b).truth = some b := (rfl)
@[simp] theorem truth_int {i : Int} : (W.int i).truth = some (i != 0) := (rfl)
@[simp] theorem truth_tup {ws : List W} : (W.tup ws).truth = some (!ws.isEmpty) := (rfl)
@[simp] theorem truth_lst {m : Fl} {ws : List W} : (W.lst m ws).truth = some (!ws.isEmpty) := (rfl)
@[simp] theorem blt_lenL {m : Fl} {ws : List W} : bltF .len [.lst m ws] = some (.int ws.length) := (rfl)
@[simp] theorem blt_lenT {ws : List W} : bltF .len [.tup ws] = some (.int ws.length) := (rfl)
@[simp] theorem blt_int {i : Int} : bltF .int [.int i] = some (.int i) := (rfl)
@[simp] theorem blt_intb {b : Bool} : bltF .int [.bl b] = some (.int (if b then 1 else 0)) := (rfl)
@[simp] theorem blt_abs {i : Int} : bltF .abs [.int i] = some (.int (if i < 0 then -i else i)) := (rfl)
@[simp] theorem blt_min2 {i j : Int} : bltF .min [.int i, .int j] = some (.int (if j < i then j else i)) := (rfl)
@[simp] theorem blt_max2 {i j : Int} : bltF .max [.int i, .int j] = some (.int (if j > i then j else i)) := (rfl)
@[simp] theorem blt_min {m : Fl} {ws : List W} : bltF .min [.lst m ws] = minF ws := (rfl)
@[simp] theorem blt_max {m : Fl} {ws : List W} : bltF .max [.lst m ws] = maxF ws := (rfl)
@[simp] theorem blt_sum {m : Fl} {ws : List W} : bltF .sum [.lst m ws] = (intsOf ws).map fun ns => .int ns.sum := (rfl)
@[simp] theorem blt_all {m : Fl} {ws : List W} : bltF .all [.lst m ws] = (blsOf ws).map fun bs => .bl (bs.all id) := (rfl)
@[simp] theorem blt_any {m : Fl} {ws : List W} : bltF .any [.lst m ws] = (blsOf ws).map fun bs => .bl (bs.any id) := (rfl)
@[simp] theorem blt_sortedL {m : Fl} {ws : List W} : bltF .sorted [.lst m ws] = (intsOf ws).map fun ns => .lst .own ((sortI ns).map W.int) := (rfl)
@[simp] theorem blt_sortedT {ws : List W} : bltF .sorted [.tup ws] = (intsOf ws).map fun ns => .lst .own ((sortI ns).map W.int) := (rfl)
@[simp] theorem blt_listL {m : Fl} {ws : List W} : bltF .list [.lst m ws] = opt (!hasL Fl.isMut ws) (.lst .own ws) := (rfl)
@[simp] theorem blt_listT {ws : List W} : bltF .list [.tup ws] = opt (!hasL Fl.isMut ws) (.lst .own ws) := (rfl)
@[simp] theorem blt_tupleL {m : Fl} {ws : List W} : bltF .tuple [.lst m ws] = opt (!hasL Fl.isMut ws) (.tup ws) := (rfl)
@[simp] theorem blt_tupleT {ws : List W} : bltF .tuple [.tup ws] = opt (!hasL Fl.isMut ws) (.tup ws) := (rfl)
theorem blt_repr {w : W} : bltF .repr [w] = opt (w.plain && w.dat.showable && decide (w.dat.depth < 60) && decide (w.dat.shown.length ≤ szLine)) (.str w.dat.shown) := by cases w <;> rfl
@[simp] theorem intsOf_ints {ns : List Int} : intsOf (ns.map W.int) = some ns := by
  induction ns with
  | nil => rfl
  | cons n r ih => rw [List.map_cons, intsOf, ih]; rfl
@[simp] theorem blsOf_bls {ns : List Bool} : blsOf (ns.map W.bl) = some ns := by
  induction ns with
  | nil => rfl
  | cons n r ih => rw [List.map_cons, blsOf, ih]; rfl
@[simp] theorem idx_lst {m : Fl} {ws : List W} {i : Int} : idxF (.lst m ws) (.int i) = atI ws i := (rfl)
@[simp] theorem idx_tup {ws : List W} {i : Int} : idxF (.tup ws) (.int i) = atI ws i := (rfl)
@[simp] theorem fld_ins {m : Fl} {c : Nat} {fs : List (Nat × W)} {f : Nat} : fldF (.ins m c fs) f = fs.lookup f := (rfl)
@[simp] theorem mut_append {ws : List W} {w : W} : mutF .append (.lst .own ws) [w] = opt (!w.lnt? && decide (ws.length < szLine)) (.lst .own (ws ++ [w]), .non) := (rfl)
@[simp] theorem mut_extend {ws us : List W} {m : Fl} : mutF .extend (.lst .own ws) [.lst m us] = opt (!hasL Fl.isLnt us && decide (ws.length + us.length ≤ szLine)) (.lst .own (ws ++ us), .non) := (rfl)
@[simp] theorem mut_setix {ws : List W} {i : Int} {w : W} : mutF .setix (.lst .own ws) [.int i, w] = (ixN ws.length i).bind fun j => opt (!w.lnt? && decide (j < ws.length)) (.lst .own (ws.set j w), .non) := (rfl)
@[simp] theorem mut_setf {f c : Nat} {fs : List (Nat × W)} {w : W} : mutF (.setf f) (.ins .own c fs) [w] = opt (!w.lnt? && decide (fs.length < 1000)) (.ins .own c (putW f w fs), .non) := (rfl)
@[simp] theorem getP_nil {w : W} : getP w [] = some w := by cases w <;> rfl
@[simp] theorem getP_dct {kvs : List (Key × W)} {x : Str} {r : List Ps} : getP (.dct .own kvs) (.k x :: r) = (getK (.inr x) kvs).bind fun y => getP y r := (rfl)
@[simp] theorem setP_dct {kvs : List (Key × W)} {n : Str} {r : List Ps} {x : W} : setP (.dct .own kvs) (.k n :: r) x = (getK (.inr n) kvs).bind fun y => (setP y r x).map fun z => .dct .own (setK (.inr n) z kvs) := (rfl)
@[simp] theorem getP_ins {c f : Nat} {fs : List (Nat × W)} {r : List Ps} : getP (.ins .own c fs) (.f f :: r) = (fs.lookup f).bind fun x => getP x r := (rfl)
@[simp] theorem setP_nil {w x : W} : setP w [] x = some x := by cases w <;> rfl
@[simp] theorem setP_ins {c f : Nat} {fs : List (Nat × W)} {r : List Ps} {x : W} : setP (.ins .own c fs) (.f f :: r) x = (fs.lookup f).bind fun y => (setP y r x).map fun z => .ins .own c (putW f z fs) := (rfl)
@[simp] theorem lookup_cons' {a k : Nat} {b : W} {es : List (Nat × W)} : List.lookup a ((k, b) :: es) = if a = k then some b else List.lookup a es := by
  by_cases h : a = k
  · subst h; simp [List.lookup]
  · simp [List.lookup, h, show (a == k) = false by simpa using h]
@[simp] theorem lookup_nil' {a : Nat} : List.lookup a ([] : List (Nat × W)) = none := (rfl)
@[simp] theorem putW_nil {f : Nat} {w : W} : putW f w [] = [(f, w)] := (rfl)
@[simp] theorem putW_cons {f g : Nat} {w x : W} {r : List (Nat × W)} : putW f w ((g, x) :: r) = if g = f then (f, w) :: r else (g, x) :: putW f w r := (rfl)
@[simp] theorem fits_append {m : Fl} {ws : List W} : Mut.append.fits (.lst m ws) = true := (rfl)
@[simp] theorem fits_extend {m : Fl} {ws : List W} : Mut.extend.fits (.lst m ws) = true := (rfl)
@[simp] theorem fits_pop {m : Fl} {ws : List W} : Mut.pop.fits (.lst m ws) = true := (rfl)
@[simp] theorem fits_update {m : Fl} {ws : List (Key × W)} : Mut.update.fits (.dct m ws) = true := (rfl)
@[simp] theorem fits_split {x : Str} : Mtd.split.fits (.str x) = true := (rfl)
@[simp] theorem fits_join {x : Str} : Mtd.join.fits (.str x) = true := (rfl)
@[simp] theorem fits_partition {x : Str} : Mtd.partition.fits (.str x) = true := (rfl)
@[simp] theorem fits_index {m : Fl} {ws : List W} : Mtd.index.fits (.lst m ws) = true := (rfl)
@[simp] theorem fits_get {m : Fl} {ws : List (Key × W)} : Mtd.get.fits (.dct m ws) = true := (rfl)
@[simp] theorem seq_str {x : Str} : (W.str x).seq? = some (x.cps.toList.map fun c => .str ⟨#[c]⟩) := (rfl)
@[simp] theorem zipS_lst {m n : Fl} {a b : List W} : zipS (.lst m a) (.lst n b) = some (a, b) := (rfl)
@[simp] theorem zipS_tup {a b : List W} : zipS (.tup a) (.tup b) = some (a, b) := (rfl)
@[simp] theorem keyOf_int {i : Int} : keyOf (.int i) = some (.inl i) := (rfl)
@[simp] theorem keyOf_str {x : Str} : keyOf (.str x) = some (.inr x) := (rfl)
@[simp] theorem getK_nil {k : Key} : getK k [] = none := (rfl)
@[simp] theorem getK_cons {k g : Key} {x : W} {r : List (Key × W)} : getK k ((g, x) :: r) = if g = k then some x else getK k r := (rfl)
@[simp] theorem setK_nil {k : Key} {w : W} : setK k w [] = [(k, w)] := (rfl)
@[simp] theorem setK_cons {k g : Key} {x w : W} {r : List (Key × W)} : setK k w ((g, x) :: r) = if g = k then (k, w) :: r else (g, x) :: setK k w r := (rfl)
@[simp] theorem idx_dct {m : Fl} {kvs : List (Key × W)} {k : W} : idxF (.dct m kvs) k = (keyOf k).bind fun key => getK key kvs := by cases k <;> rfl
@[simp] theorem slc_lst {m : Fl} {ws : List W} {lo hi : Option Int} : slcF (.lst m ws) lo hi = VL.opt (!hasL Fl.isMut ws) (.lst .own (cutW ws lo hi)) := (rfl)
@[simp] theorem slc_tup {ws : List W} {lo hi : Option Int} : slcF (.tup ws) lo hi = VL.opt (!hasL Fl.isMut ws) (.tup (cutW ws lo hi)) := (rfl)
@[simp] theorem slc_str {x : Str} {lo hi : Option Int} : slcF (.str x) lo hi = VL.opt (decide (x.length ≤ szLine)) (.str (cutS x lo hi)) := (rfl)
@[simp] theorem blt_lenD {m : Fl} {kvs : List (Key × W)} : bltF .len [.dct m kvs] = some (.int kvs.length) := (rfl)
@[simp] theorem blt_lenS {x : Str} : bltF .len [.str x] = VL.opt (decide (x.length ≤ szLine)) (.int x.length) := (rfl)
@[simp] theorem blt_dict {m : Fl} {ws : List W} : bltF .dict [.lst m ws] = (kpairs ws).bind fun kvs => VL.opt (!hasL Fl.isMut ws && decide (ws.length ≤ szLine)) (.dct .own (mergeW [] kvs)) := (rfl)
@[simp] theorem blt_strI {i : Int} : bltF .str [.int i] = VL.opt (decide (i.natAbs.log2 < 1920)) (.str (toString i)) := (rfl)
@[simp] theorem blt_strS {x : Str} : bltF .str [.str x] = some (.str x) := (rfl)
@[simp] theorem blt_intS {x : Str} : bltF .int [.str x] = (PySem.intText? x).bind fun n => VL.opt (decide (x.length ≤ 640)) (.int n) := (rfl)
@[simp] theorem mut_update {kvs more : List (Key × W)} {m : Fl} : mutF .update (.dct .own kvs) [.dct m more] = VL.opt (!m.isLnt && !hasK Fl.isMut more && decide (kvs.length + more.length ≤ szLine)) (.dct .own (mergeW kvs more), .non) := (rfl)
@[simp] theorem mut_setixD {kvs : List (Key × W)} {k w : W} : mutF .setix (.dct .own kvs) [k, w] = (keyOf k).bind fun key => VL.opt (!w.lnt? && decide (kvs.length < szLine)) (.dct .own (setK key w kvs), .non) := by cases k <;> rfl
@[simp] theorem cmp_inn {a b : W} : cmpF .inn a b = inF a b := (rfl)
@[simp] theorem cmp_nin {a b : W} : cmpF .nin a b = (inF a b).map (!·) := (rfl)
@[simp] theorem inF_dct {a : W} {m : Fl} {kvs : List (Key × W)} : inF a (.dct m kvs) = (keyOf a).map fun k => (getK k kvs).isSome := (rfl)
@[simp] theorem mtd_split {a b : Str} : mtdF .split (.str a) [.str b] = VL.opt (!(b.length == 0) && decide (a.length + 2 ≤ szLine)) (.lst .own ((Txt.split a b).map W.str)) := (rfl)
@[simp] theorem mtd_join {a : Str} {x : W} : mtdF .join (.str a) [x] = x.sq?.bind fun ws => (strsOf ws).bind fun ys => VL.opt (decide ((ys.map (·.length)).sum + ys.length * a.length ≤ 16777216)) (.str (Txt.join a ys)) := (rfl)
@[simp] theorem mtd_get1 {m : Fl} {kvs : List (Key × W)} {k : W} : mtdF .get (.dct m kvs) [k] = (keyOf k).map fun key => (getK key kvs).getD .non := (rfl)
@[simp] theorem mtd_get2 {m : Fl} {kvs : List (Key × W)} {k z : W} : mtdF .get (.dct m kvs) [k, z] = (keyOf k).map fun key => (getK key kvs).getD z := (rfl)
@[simp] theorem bin_addS {a b : Str} : binF .add (.str a) (.str b) = VL.opt (decide (a.length + b.length ≤ szLine)) (.str (a ++ b)) := (rfl)
@[simp] theorem seq_lst {m : Fl} {ws : List W} : (W.lst m ws).seq? = some ws := (rfl)
@[simp] theorem seq_tup {ws : List W} : (W.tup ws).seq? = some ws := (rfl)
@[simp] theorem lst_lst {m : Fl} {ws : List W} : (W.lst m ws).lst? = some ws := (rfl)
theorem atI_nat {β : Type} {ws : List β} {k : Nat} (h : k < ws.length) : atI ws (k : Int) = ws[k]? := by
  unfold atI ixN
  rw [if_pos (by omega), if_pos (by omega)]
  simp
@[simp] theorem atI_cast {β : Type} {ws : List β} {k : Nat} : atI ws (k : Int) = ws[k]? := by
  by_cases h : k < ws.length
  · exact atI_nat h
  · unfold atI ixN
    rw [if_pos (by omega), if_neg (by omega), List.getElem?_eq_none (by omega)]; rfl
@[simp] theorem atI_lit {β : Type} {ws : List β} {k : Nat} : atI ws (no_index (OfNat.ofNat k : Int)) = ws[k]? := atI_cast
@[simp] theorem atI_last {β : Type} {ws : List β} : atI ws (no_index (-1)) = ws[ws.length - 1]? := by
  cases ws with
  | nil => rfl
  | cons a r =>
    unfold atI ixN
    rw [if_neg (by decide), if_pos (by rw [List.length_cons]; omega)]
    show (a :: r)[((-1 : Int) + ((a :: r).length : Int)).toNat]? = _
    congr 1
    rw [List.length_cons]; omega
@[simp] theorem ixN_cast {n k : Nat} : ixN n (k : Int) = if k < n then some k else none := by
  unfold ixN
  rw [if_pos (by omega)]
  by_cases h : k < n
  · rw [if_pos (by omega), if_pos h]; simp
  · rw [if_neg (by omega), if_neg h]
@[simp] theorem ixN_lit {n k : Nat} : ixN n (no_index (OfNat.ofNat k : Int)) = if k < n then some k else none := ixN_cast
theorem atI_in {β : Type} {ws : List β} {i : Int} (h0 : 0 ≤ i) (h : i < ws.length) : ∃ w ∈ ws, atI ws i = some w := by
  obtain ⟨k, rfl⟩ := Int.eq_ofNat_of_zero_le h0
  have hk : k < ws.length := by omega
  exact ⟨ws[k], List.getElem_mem hk, by rw [atI_cast, List.getElem?_eq_getElem hk]⟩
theorem log2_lt {i : Int} (k : Nat) {m : Nat} (h1 : -(2 ^ k : Int) < i) (h2 : i < 2 ^ k) (hm : k ≤ m) (h0 : 0 < m) : i.natAbs.log2 < m := by
  by_cases h0 : i.natAbs = 0
  · rw [h0]; simpa using by assumption
  · have : i.natAbs < 2 ^ k := by
      have e : ((2 ^ k : Nat) : Int) = 2 ^ k := by rw [Int.natCast_pow]; rfl
      rw [← e] at h1 h2
      omega
    have := (Nat.log2_lt h0).mpr this
    omega
theorem atI_some {β : Type} {ws : List β} {i : Int} (h0 : 0 ≤ i) (h : i < ws.length) : atI ws i = ws[i.toNat]? := by
  unfold atI ixN
  rw [if_pos h0, if_pos h]
  simp
theorem atI_neg {β : Type} {ws : List β} {i : Int} (h0 : i < 0) (h : -(ws.length : Int) ≤ i) : atI ws i = ws[(i + ws.length).toNat]? := by
  unfold atI ixN
  rw [if_neg (by omega), if_pos h]
  simp
end
/-! ## how great -/
def lt2 (k : Nat) (i : Int) : Prop := i.natAbs < 2 ^ k
instance {k : Nat} {i : Int} : Decidable (lt2 k i) := inferInstanceAs (Decidable (i.natAbs < 2 ^ k))
theorem lt2_of {k : Nat} {i : Int} (h1 : -(2 ^ k : Int) < i) (h2 : i < 2 ^ k) : lt2 k i := by
  have e : ((2 ^ k : Nat) : Int) = 2 ^ k := by rw [Int.natCast_pow]; rfl
  rw [← e] at h1 h2
  unfold lt2; omega
theorem lt2_mono {k l : Nat} {i : Int} (h : lt2 k i) (hk : k ≤ l) : lt2 l i := Nat.lt_of_lt_of_le h (Nat.pow_le_pow_right (by omega) hk)
theorem lt2_mul {k l : Nat} {i j : Int} (h : lt2 k i) (g : lt2 l j) : lt2 (k + l) (i * j) := by
  unfold lt2 at *
  rw [Int.natAbs_mul, Nat.pow_add]
  exact Nat.mul_lt_mul'' h g
theorem lt2_add {k : Nat} {i j : Int} (h : lt2 k i) (g : lt2 k j) : lt2 (k + 1) (i + j) := by
  unfold lt2 at *
  have := Int.natAbs_add_le i j
  rw [Nat.pow_succ]; omega
theorem lt2_mod {k : Nat} {i p : Int} (h0 : 0 < p) (h : lt2 k p) : lt2 k (i % p) := by
  unfold lt2 at *
  have := Int.emod_nonneg i (show p ≠ 0 by omega)
  have := Int.emod_lt_of_pos i h0
  omega
theorem lt2_log {k m : Nat} {i : Int} (h : lt2 k i) (hk : k ≤ m) (h0 : 0 < m) : i.natAbs.log2 < m := by
  by_cases h1 : i.natAbs = 0
  · rw [h1]; simpa using h0
  · have := (Nat.log2_lt h1).mpr (show i.natAbs < 2 ^ k from h)
    omega
theorem lt2_log2 {k l m : Nat} {i j : Int} (h : lt2 k i) (g : lt2 l j) (hk : k + l ≤ m) (h0 : 0 < m) : i.natAbs.log2 + j.natAbs.log2 < m := by
  by_cases hk0 : i.natAbs = 0
  · rw [hk0]
    have := lt2_log g (show l ≤ m by omega) h0
    simpa using this
  · by_cases hl0 : j.natAbs = 0
    · rw [hl0]
      have := lt2_log h (show k ≤ m by omega) h0
      simpa using this
    · have h1 := (Nat.log2_lt hk0).mpr (show i.natAbs < 2 ^ k from h)
      have h2 := (Nat.log2_lt hl0).mpr (show j.natAbs < 2 ^ l from g)
      omega
theorem mod_pos {i u : Int} (h : 0 < u) : 0 ≤ i % u ∧ i % u < u := ⟨Int.emod_nonneg _ (by omega), Int.emod_lt_of_pos _ h⟩
theorem div_le {a u : Int} (h0 : 0 ≤ a) (h : 0 < u) : 0 ≤ a / u ∧ a / u ≤ a := ⟨Int.ediv_nonneg h0 (by omega), Int.ediv_le_self _ h0⟩
/-! ## rows of values -/
/-- the first n values of g -/
def tabW (n : Nat) (g : Nat → W) : List W := (List.range n).map g
abbrev tabI (n : Nat) (f : Nat → Int) : List W := tabW n fun k => .int (f k)
abbrev tabO (n : Nat) (f : Nat → Option Int) : List W := tabW n fun k => wO (f k)
section
variable {n k : Nat} {g : Nat → W} {x : W} {p : Fl → Bool} {f : Fl → Fl}
@[simp] theorem tabW_len : (tabW n g).length = n := by simp [tabW]
@[simp] theorem tabW_get (h : k < (tabW n g).length) : (tabW n g)[k] = g k := by simp [tabW]
theorem tabW_at (h : k < n) : (tabW n g)[k]? = some (g k) := by simp [tabW, h]
theorem tabW_in (h : (tabW n g)[k]? = some x) : k < n ∧ x = g k := by
  have lt := (List.getElem?_eq_some_iff.mp h).1
  rw [tabW_len] at lt
  rw [tabW_at lt] at h
  exact ⟨lt, (Option.some.inj h).symm⟩
theorem tabW_app (h : x = g n) : tabW n g ++ [x] = tabW (n + 1) g := by
  subst h; simp [tabW, List.range_succ]
@[simp] theorem tabW_zero : tabW 0 g = [] := by simp [tabW]
theorem tabW_one : tabW 1 g = [g 0] := by simp [tabW]
theorem tabW_ext {g' : Nat → W} (h : ∀ k, k < n → g k = g' k) : tabW n g = tabW n g' := by
  unfold tabW
  exact List.map_congr_left fun k hk => h k (by simpa using hk)
theorem hasL_tab (h : ∀ k, (g k).has p = false) : hasL p (tabW n g) = false := hasL_map fun k _ => h k
theorem mapL_tab (h : ∀ k, (g k).mapF f = g k) : mapL f (tabW n g) = tabW n g := mapL_map fun k _ => h k
@[simp] theorem hasL_tabI {f : Nat → Int} : hasL p (tabI n f) = false := hasL_tab fun _ => has_int
@[simp] theorem hasL_tabO {f : Nat → Option Int} : hasL p (tabO n f) = false := hasL_tab fun _ => has_wO
@[simp] theorem mapL_tabI {q : Nat → Int} : mapL f (tabI n q) = tabI n q := mapL_tab fun _ => mapF_int
@[simp] theorem mapL_tabO {q : Nat → Option Int} : mapL f (tabO n q) = tabO n q := mapL_tab fun _ => mapF_wO
theorem ints_tab (ns : List Int) : ns.map W.int = tabI ns.length fun k => ns.getD k 0 := by
  apply List.ext_getElem?
  intro i
  by_cases h : i < ns.length
  · rw [tabW_at h, List.getElem?_map, List.getElem?_eq_getElem h]
    show some (W.int ns[i]) = some (W.int (ns.getD i 0))
    rw [List.getD_eq_getElem?_getD, List.getElem?_eq_getElem h]; rfl
  · rw [List.getElem?_eq_none (by simpa using h), List.getElem?_eq_none (by simpa using h)]
theorem tab_ints {f : Nat → Int} : tabI n f = ((List.range n).map f).map W.int := by
  unfold tabI tabW; rw [List.map_map]; rfl
@[simp] theorem intsOf_tabI {f : Nat → Int} : intsOf (tabI n f) = some ((List.range n).map f) := by rw [tab_ints, intsOf_ints]
theorem rng_tab {i j : Int} {a : Nat} (h : (j - i).toNat = a) : (List.range (j - i).toNat).map (fun k => W.int (i + ((k : Nat) : Int))) = tabI a fun k => i + k := by rw [h]; rfl
end
@[simp] theorem rng1_int {j : Int} : rng1F (.int j) = if -(2 ^ 62) ≤ j ∧ j < 2 ^ 62 then some (tabI j.toNat fun k => k) else none := by
  unfold rng1F tabI tabW
  simp
@[simp] theorem rng2_int {i j : Int} : rng2F (.int i) (.int j) = if -(2 ^ 62) ≤ i ∧ i < 2 ^ 62 ∧ -(2 ^ 62) ≤ j ∧ j < 2 ^ 62 then some (tabI (j - i).toNat fun k => i + k) else none := (rfl)
@[simp] theorem lrg_int {tp : Bool} {l : Option Int} {j : Int} : lrgF tp l (.int j) = if -(2 ^ 62) ≤ l.getD 0 ∧ l.getD 0 < 2 ^ 62 ∧ -(2 ^ 62) ≤ j ∧ j < 2 ^ 62 ∧ (j - l.getD 0).toNat ≤ 2 ^ 24 then some (if tp then .tup (tabI (j - l.getD 0).toNat fun k => l.getD 0 + k) else .lst .own (tabI (j - l.getD 0).toNat fun k => l.getD 0 + k)) else none := by
  show Option.map _ (rngW (l.getD 0) j) = _
  unfold rngW
  by_cases h : -(2 ^ 62) ≤ l.getD 0 ∧ l.getD 0 < 2 ^ 62 ∧ -(2 ^ 62) ≤ j ∧ j < 2 ^ 62 ∧ (j - l.getD 0).toNat ≤ 2 ^ 24
  · rw [if_pos h, if_pos h]; rfl
  · rw [if_neg h, if_neg h]; rfl
section
variable {α : Type} {X : ExC} {env : Env}
@[simp] theorem R.wp_optif {c : Prop} [Decidable c] {a : α} {Q : α → Env → Prop} : (R.opt (if c then some a else none) env).wp Q X = (c ∧ Q a env) := by by_cases h : c <;> simp [h]
end
theorem R.eq_of_wp {α : Type} {r : R α} {x : α} {y : Env} (h : r.wp (fun a env => a = x ∧ env = y) noX) : r = .ok x y := by
  cases r with
  | ok a env => obtain ⟨rfl, rfl⟩ := h; rfl
  | ex c w env => exact h.elim
  | bad => exact h.elim
@[simp] theorem recvW_bor {i : Nat} {x : W} {env : Env} : recvW (.bor i) x env = match env[i]? with
    | some (some w) => some w
    | _ => none := by unfold recvW; rfl
@[simp] theorem recvW_var {i : Nat} {x : W} {env : Env} : recvW (.var i) x env = some x := (rfl)
@[simp] theorem recvW_fld {a : IE} {f : Nat} {x : W} {env : Env} : recvW (.fld a f) x env = some x := (rfl)
@[simp] theorem recvW_call {a : List IE} {f : Nat} {x : W} {env : Env} : recvW (.call f a) x env = some x := (rfl)
@[simp] theorem recvW_make {a : List IE} {f c : Nat} {x : W} {env : Env} : recvW (.make c f a) x env = some x := (rfl)
@[simp ↓] theorem wp_kwFn {n : Nat} {pm : List Nat} {F : Fn} {us : List W} {Q : W → Env → Prop} {X : ExC} : ((kwFn n pm F).run us).wp Q X = (hasL Fl.isMut us = false ∧ (F.run (pm.map fun j => us.getD j .non)).wp (fun w _ => Q w (List.replicate n none)) (fun c w _ => X c w (List.replicate n none))) := by
  show R.wp (if hasL Fl.isMut us then .bad else match F.run (pm.map fun j => us.getD j .non) with
    | .ok w _ => .ok w (List.replicate n none)
    | .ex c w _ => .ex c w (List.replicate n none)
    | .bad => .bad) Q X = _
  by_cases h : hasL Fl.isMut us = true
  · simp [h]
  · simp only [h]
    cases F.run (pm.map fun j => us.getD j .non) <;> simp [R.wp]
@[simp] theorem kwFn_md {n : Nat} {pm : List Nat} {F : Fn} : (kwFn n pm F).md = List.replicate n .own := (rfl)
@[simp ↓] theorem wp_compStep {ρ : Nat → Fn} {own : List Nat} {tg : Tg} {ifs : List IT} {e : IE} {ro2 env2 : Env} {x : W} {Q : Option W → Env → Prop} {X : ExC} : (compStep ρ own tg ifs e ro2 x env2).wp Q X = R.wp (bindK (asgT [] tg x ro2 env2) fun p => (evTand ρ ifs p.1 p.2).bind fun k env4 => if k then (ev ρ e p.1 env4).bind fun w env5 => .ok (some w) (wipeE env5 own) else .ok none (wipeE env4 own)) Q X := by
  unfold compStep
  cases asgT [] tg x ro2 env2 <;> rfl
def unM (u : W) (bs : Env) (k : W → Env → Prop) (t : TgK k := .mk) : Prop := match u, bs with
  | .non, some w :: bs' => k w bs'
  | _, _ => False
@[simp] theorem unM_some {w : W} {bs : Env} {k : W → Env → Prop} : unM .non (some w :: bs) k = k w bs := (rfl)
@[simp ↓] theorem R.wp_retM' {as : List IE} {env : Env} {r : R W} {Q : W → Env → Prop} {X : ExC} : (retM as env r).wp Q X = r.wp (fun u bs => unM u bs fun w bs' => Q w (putBack as bs' env)) (fun c u bs => ∃ b bs', bs = b :: bs' ∧ X c u (putBack as bs' env)) := by
  cases r with
  | bad => rfl
  | ex c u bs =>
    cases bs with
    | nil => exact propext ⟨fun h => h.elim, fun ⟨_, _, h, _⟩ => nomatch h⟩
    | cons b bs => exact propext ⟨fun h => ⟨b, bs, rfl, h⟩, fun ⟨_, _, h, g⟩ => by cases h; exact g⟩
  | ok u bs =>
    cases u <;> cases bs <;> try rfl
    rename_i b bs
    cases b <;> rfl
end VL
set_option Elab.async false
set_option linter.all false
set_option maxRecDepth 100000
set_option maxHeartbeats 4000000
namespace VL
open PySem L2
/-! # what == and repr say of plain values -/
section
variable {p : Fl → Bool} {f : Fl → Fl}
@[simp] theorem plain_non : W.non.plain = true := (rfl)
@[simp] theorem plain_bl {b : Bool} : (W.bl b).plain = true := by rw [W.plain]
@[simp] theorem plain_int {i : Int} : (W.int i).plain = true := by rw [W.plain]
@[simp] theorem plain_str {x : Str} : (W.str x).plain = true := by rw [W.plain]
@[simp] theorem plain_tup {ws : List W} : (W.tup ws).plain = plainL ws := by rw [W.plain]
@[simp] theorem plain_lst {m : Fl} {ws : List W} : (W.lst m ws).plain = plainL ws := by rw [W.plain]
@[simp] theorem plain_dct {m : Fl} {ws : List (Key × W)} : (W.dct m ws).plain = false := by rw [W.plain]
@[simp] theorem plain_ins {m : Fl} {c : Nat} {ws : List (Nat × W)} : (W.ins m c ws).plain = false := by rw [W.plain]
@[simp] theorem plainL_nil : plainL [] = true := by rw [plainL]
@[simp] theorem plainL_cons {w : W} {r : List W} : plainL (w :: r) = (w.plain && plainL r) := by rw [plainL]
theorem plainL_all {ws : List W} : plainL ws = ws.all W.plain := by
  induction ws with
  | nil => rfl
  | cons w r ih => rw [plainL_cons, ih]; rfl
theorem datL_map {ws : List W} : datL ws = ws.map W.dat := by
  induction ws with
  | nil => rfl
  | cons w r ih => rw [datL, ih]; rfl
/-! ## how great a value is, written out -/
mutual
/-- a bound of how long repr is -/
def W.sz : W → Nat
  | .non => 4
  | .bl _ => 5
  | .int i => i.natAbs.log2 + 3
  | .str x => 10 * x.length + 2
  | .tup ws => szL ws + 4
  | .lst _ ws => szL ws + 4
  | .dct _ _ => 0
  | .ins _ _ _ => 0
def szL : List W → Nat
  | [] => 0
  | w :: r => w.sz + 2 + szL r
end
mutual
def W.dep : W → Nat
  | .non => 0 | .bl _ => 0 | .int _ => 0 | .str _ => 0
  | .tup ws => depL ws + 1
  | .lst _ ws => depL ws + 1
  | .dct _ _ => 0
  | .ins _ _ _ => 0
def depL : List W → Nat
  | [] => 0
  | w :: r => max w.dep (depL r)
end
mutual
/-- ints not too great, texts of signs -/
def W.fine : W → Bool
  | .non => true | .bl _ => true
  | .int i => decide (i.natAbs.log2 < 1920)
  | .str x => PyData.strOk x
  | .tup ws => fineL ws
  | .lst _ ws => fineL ws
  | .dct _ _ => false
  | .ins _ _ _ => false
def fineL : List W → Bool
  | [] => true
  | w :: r => w.fine && fineL r
end
@[simp] theorem sz_non : W.non.sz = 4 := by rw [W.sz]
@[simp] theorem sz_bl {b : Bool} : (W.bl b).sz = 5 := by rw [W.sz]
@[simp] theorem sz_int {i : Int} : (W.int i).sz = i.natAbs.log2 + 3 := by rw [W.sz]
@[simp] theorem sz_str {x : Str} : (W.str x).sz = 10 * x.length + 2 := by rw [W.sz]
@[simp] theorem sz_tup {ws : List W} : (W.tup ws).sz = szL ws + 4 := by rw [W.sz]
@[simp] theorem sz_lst {m : Fl} {ws : List W} : (W.lst m ws).sz = szL ws + 4 := by rw [W.sz]
@[simp] theorem szL_nil : szL [] = 0 := by rw [szL]
@[simp] theorem szL_cons {w : W} {r : List W} : szL (w :: r) = w.sz + 2 + szL r := by rw [szL]
@[simp] theorem dep_non : W.non.dep = 0 := by rw [W.dep]
@[simp] theorem dep_bl {b : Bool} : (W.bl b).dep = 0 := by rw [W.dep]
@[simp] theorem dep_int {i : Int} : (W.int i).dep = 0 := by rw [W.dep]
@[simp] theorem dep_str {x : Str} : (W.str x).dep = 0 := by rw [W.dep]
@[simp] theorem dep_tup {ws : List W} : (W.tup ws).dep = depL ws + 1 := by rw [W.dep]
@[simp] theorem dep_lst {m : Fl} {ws : List W} : (W.lst m ws).dep = depL ws + 1 := by rw [W.dep]
@[simp] theorem depL_nil : depL [] = 0 := by rw [depL]
@[simp] theorem depL_cons {w : W} {r : List W} : depL (w :: r) = max w.dep (depL r) := by rw [depL]
@[simp] theorem fine_non : W.non.fine = true := by rw [W.fine]
@[simp] theorem fine_bl {b : Bool} : (W.bl b).fine = true := by rw [W.fine]
@[simp] theorem fine_int {i : Int} : (W.int i).fine = decide (i.natAbs.log2 < 1920) := by rw [W.fine]
@[simp] theorem fine_str {x : Str} : (W.str x).fine = PyData.strOk x := by rw [W.fine]
@[simp] theorem fine_tup {ws : List W} : (W.tup ws).fine = fineL ws := by rw [W.fine]
@[simp] theorem fine_lst {m : Fl} {ws : List W} : (W.lst m ws).fine = fineL ws := by rw [W.fine]
@[simp] theorem fineL_nil : fineL [] = true := by rw [fineL]
@[simp] theorem fineL_cons {w : W} {r : List W} : fineL (w :: r) = (w.fine && fineL r) := by rw [fineL]
mutual
theorem dep_dat : ∀ w : W, w.plain = true → w.dat.depth = w.dep
  | .non, _ | .bl _, _ | .int _, _ | .str _, _ => by simp [W.dat, PyData.depth]
  | .tup ws, h => by rw [W.dat, PyData.depth, dep_tup, depL_dat ws (by simpa using h)]
  | .lst _ ws, h => by rw [W.dat, PyData.depth, dep_lst, depL_dat ws (by simpa using h)]
  | .dct _ _, h | .ins _ _ _, h => by simp at h
theorem depL_dat : ∀ ws : List W, plainL ws = true → PyData.depthAll (datL ws) = depL ws
  | [], _ => by rw [datL, PyData.depthAll, depL_nil]
  | w :: r, h => by
    rw [plainL_cons, Bool.and_eq_true] at h
    rw [datL, PyData.depthAll, depL_cons, dep_dat w h.1, depL_dat r h.2]
end
mutual
theorem fine_showable : ∀ w : W, w.fine = true → w.dat.showable = true
  | .non, _ | .bl _, _ | .str _, _ => by simp [W.dat, PyData.showable]
  | .int i, h => by rw [W.dat, PyData.showable]; simpa using h
  | .tup ws, h => by rw [W.dat, PyData.showable]; exact fineL_showable ws (by simpa using h)
  | .lst _ ws, h => by rw [W.dat, PyData.showable]; exact fineL_showable ws (by simpa using h)
  | .dct _ _, h | .ins _ _ _, h => by simp [W.fine] at h
theorem fineL_showable : ∀ ws : List W, fineL ws = true → PyData.showableAll (datL ws) = true
  | [], _ => by rw [datL, PyData.showableAll]
  | w :: r, h => by
    rw [fineL_cons, Bool.and_eq_true] at h
    rw [datL, PyData.showableAll, fine_showable w h.1, fineL_showable r h.2]; rfl
end
mutual
theorem fine_canLay : ∀ w : W, w.fine = true → w.dat.canLay0 = true
  | .non, _ | .bl _, _ | .int _, _ => by simp [W.dat, PyData.canLay0]
  | .str x, h => by rw [W.dat, PyData.canLay0]; simpa using h
  | .tup ws, h => by rw [W.dat, PyData.canLay0]; exact fineL_canLay ws (by simpa using h)
  | .lst _ ws, h => by rw [W.dat, PyData.canLay0]; exact fineL_canLay ws (by simpa using h)
  | .dct _ _, h | .ins _ _ _, h => by simp [W.fine] at h
theorem fineL_canLay : ∀ ws : List W, fineL ws = true → PyData.canLayAll0 (datL ws) = true
  | [], _ => by rw [datL, PyData.canLayAll0]
  | w :: r, h => by
    rw [fineL_cons, Bool.and_eq_true] at h
    rw [datL, PyData.canLayAll0, fine_canLay w h.1, fineL_canLay r h.2]; rfl
end
mutual
theorem fine_plain : ∀ w : W, w.fine = true → w.plain = true
  | .non, _ | .bl _, _ | .int _, _ | .str _, _ => by simp
  | .tup ws, h => by simpa using fineL_plain ws (by simpa using h)
  | .lst _ ws, h => by simpa using fineL_plain ws (by simpa using h)
  | .dct _ _, h | .ins _ _ _, h => by simp [W.fine] at h
theorem fineL_plain : ∀ ws : List W, fineL ws = true → plainL ws = true
  | [], _ => by simp
  | w :: r, h => by
    rw [fineL_cons, Bool.and_eq_true] at h
    simp [fine_plain w h.1, fineL_plain r h.2]
end
theorem shaped_of {w : W} (h : w.fine = true) (d : w.dep ≤ 64) : SeqAt.shaped w.dat = true := by
  unfold SeqAt.shaped
  rw [fine_canLay w h, dep_dat w (fine_plain w h)]
  simpa using d
theorem eqD_of {a b : W} (h1 : a.fine = true) (h2 : b.fine = true) (d1 : a.dep ≤ 64) (d2 : b.dep ≤ 64) : eqD a b = some (PyData.eqv a.dat b.dat) := by
  unfold eqD VL.opt
  rw [fine_plain a h1, fine_plain b h2, shaped_of h1 d1, shaped_of h2 d2]
  rfl
@[simp] theorem eq_int {i j : Int} : eqF (.int i) (.int j) = some (i == j) := by
  rw [show eqF (.int i) (.int j) = eqD (.int i) (.int j) from rfl]
  unfold eqD
  simp [W.dat, SeqAt.shaped, PyData.canLay0, PyData.depth, PyData.eqv]
@[simp] theorem eq_str {x y : Str} : eqF (.str x) (.str y) = some (x == y) := (rfl)
@[simp] theorem eq_bl {x y : Bool} : eqF (.bl x) (.bl y) = some (x == y) := by
  rw [show eqF (.bl x) (.bl y) = eqD (.bl x) (.bl y) from rfl]
  unfold eqD
  simp [W.dat, SeqAt.shaped, PyData.canLay0, PyData.depth, PyData.eqv]
@[simp] theorem eq_non {x : W} : eqF .non .non = some true := by
  rw [show eqF .non .non = eqD .non .non from rfl]
  unfold eqD
  simp [W.dat, SeqAt.shaped, PyData.canLay0, PyData.depth, PyData.eqv]
@[simp] theorem eq_nonint {i : Int} : eqF .non (.int i) = some false := by
  rw [show eqF .non (.int i) = eqD .non (.int i) from rfl]
  unfold eqD
  simp [W.dat, SeqAt.shaped, PyData.canLay0, PyData.depth, PyData.eqv]
@[simp] theorem eq_intnon {i : Int} : eqF (.int i) .non = some false := by
  rw [show eqF (.int i) .non = eqD (.int i) .non from rfl]
  unfold eqD
  simp [W.dat, SeqAt.shaped, PyData.canLay0, PyData.depth, PyData.eqv]
@[simp] theorem eq_wO {a b : Option Int} : eqF (wO a) (wO b) = some (decide (a = b)) := by
  cases a with
  | none => cases b <;> simp [wO, eq_non (x := .non)]
  | some i => cases b <;> simp [Bool.beq_eq_decide_eq]
/-- a list beside the empty one -/
theorem eq_nil {m n : Fl} {ws : List W} (h : fineL ws = true) (d : depL ws ≤ 63) : eqF (.lst m ws) (.lst n []) = some ws.isEmpty := by
  rw [show eqF (.lst m ws) (.lst n []) = eqD (.lst m ws) (.lst n []) from rfl, eqD_of (by simpa using h) (by simp) (by simp; omega) (by simp)]
  cases ws with
  | nil => simp [W.dat, datL, PyData.eqv, PyData.eqvAll]
  | cons w r => simp [W.dat, datL, PyData.eqv, PyData.eqvAll]
theorem fineL_ints {ns : List Int} (h : ∀ n ∈ ns, n.natAbs.log2 < 1920) : fineL (ns.map W.int) = true := by
  induction ns with
  | nil => simp
  | cons n r ih => simp [h n (by simp), ih fun m hm => h m (by simp [hm])]
theorem depL_ints {ns : List Int} : depL (ns.map W.int) = 0 := by
  induction ns with
  | nil => simp
  | cons n r ih => simp [ih]
theorem szL_ints {ns : List Int} {k : Nat} (h : ∀ n ∈ ns, n.natAbs.log2 ≤ k) : szL (ns.map W.int) ≤ ns.length * (k + 5) := by
  induction ns with
  | nil => simp
  | cons n r ih =>
    have h1 := h n (by simp)
    have h2 := ih fun m hm => h m (by simp [hm])
    rw [List.map_cons, szL_cons, sz_int, List.length_cons, Nat.succ_mul]
    omega
/-! ## repr -/
theorem tupleText_le (ts : List Str) : (tupleText ts).length ≤ piled ts + 4 := by
  unfold tupleText
  rw [strLen_append, strLen_append]
  have e0 : (("(" : String) : Str).length = 1 := rfl
  have e1 : ((if (ts.length == 1) = true then ",)" else ")" : String) : Str).length ≤ 2 := by split <;> decide
  cases ts with
  | nil =>
    have : (Str.join ", " []).length = 0 := rfl
    omega
  | cons t r =>
    have := join_length_add (t :: r) (by simp)
    omega
theorem listText_le (ts : List Str) : (listText ts).length ≤ piled ts + 4 := by
  cases ts with
  | nil => decide
  | cons t r =>
    unfold listText
    rw [strLen_append]
    have h := textFrom_length_pos r 1 (("[" : Str) ++ (if (0 : Nat) > 0 then ", " else "" : String) ++ t) (Nat.succ_pos 0)
    rw [show textFrom 0 "[" (t :: r) = textFrom 1 (("[" : Str) ++ (if (0 : Nat) > 0 then ", " else "" : String) ++ t) r from rfl, h, strLen_append, strLen_append, piled_cons]
    have e0 : (("[" : String) : Str).length = 1 := rfl
    have e1 : (("]" : String) : Str).length = 1 := rfl
    have e2 : ((if (0 : Nat) > 0 then ", " else "" : String) : Str).length = 0 := rfl
    omega
theorem strLen_lit (x : String) : (x : Str).length = (x : Str).cps.size := rfl
mutual
theorem shown_le : ∀ w : W, w.fine = true → w.dat.shown.length ≤ w.sz
  | .non, _ => by rw [W.dat, PyData.shown, sz_non]; decide
  | .bl b, _ => by rw [W.dat, PyData.shown, sz_bl]; cases b <;> decide
  | .int i, h => by
    rw [W.dat, PyData.shown, sz_int]
    have h : i.natAbs.log2 < 1920 := by simpa using h
    have e := int_text_length_le (a := i) (k := i.natAbs.log2 + 1) (by omega) (by omega)
    show (Str.ofString (toString i)).length ≤ _
    rw [ofString_length]
    omega
  | .str x, h => by
    rw [W.dat, PyData.shown, sz_str]
    refine PySem.StrLaws.reprText_len x fun c hc => ?_
    have h : PyData.strOk x = true := by simpa using h
    unfold PyData.strOk at h
    rw [Array.all_eq_true_iff_forall_mem] at h
    have := h c (by simpa using hc)
    have : c < 1114112 := by simpa using this
    omega
  | .tup ws, h => by
    rw [W.dat, PyData.shown, sz_tup]
    have := shownL_le ws (by simpa using h)
    have := tupleText_le (PyData.shownAll (datL ws))
    omega
  | .lst _ ws, h => by
    rw [W.dat, PyData.shown, sz_lst]
    have := shownL_le ws (by simpa using h)
    have := listText_le (PyData.shownAll (datL ws))
    omega
  | .dct _ _, h | .ins _ _ _, h => by simp [W.fine] at h
theorem shownL_le : ∀ ws : List W, fineL ws = true → piled (PyData.shownAll (datL ws)) ≤ szL ws
  | [], _ => by rw [datL, PyData.shownAll, szL_nil]; exact Nat.le_refl _
  | w :: r, h => by
    rw [fineL_cons, Bool.and_eq_true] at h
    rw [datL, PyData.shownAll, szL_cons, piled_cons]
    have := shown_le w h.1
    have := shownL_le r h.2
    omega
end
theorem repr_ok {w : W} (h : w.fine = true) (d : w.dep < 60) (z : w.sz ≤ 16777216) : bltF .repr [w] = some (.str w.dat.shown) := by
  rw [blt_repr, fine_plain w h, fine_showable w h, dep_dat w (fine_plain w h)]
  have := shown_le w h
  unfold VL.opt
  rw [if_pos]
  simp
  exact ⟨d, by omega⟩
theorem lt2_log2' {k m : Nat} {i : Int} (h : lt2 k i) (hk : k ≤ m) : i.natAbs.log2 ≤ m := by
  by_cases h1 : i.natAbs = 0
  · rw [h1]; simp
  · have := (Nat.log2_lt h1).mpr (show i.natAbs < 2 ^ k from h)
    omega
theorem repr_int {i : Int} (h : lt2 1900 i) : bltF .repr [.int i] = some (.str (W.int i).dat.shown) := by
  have := lt2_log h (show 1900 ≤ 1900 by omega) (by omega)
  exact repr_ok (by simp; omega) (by simp) (by simp; omega)
theorem repr_tupI {ns : List Int} (h : ∀ n ∈ ns, lt2 1900 n) (hl : ns.length ≤ 5000) : bltF .repr [.tup (ns.map W.int)] = some (.str (W.tup (ns.map W.int)).dat.shown) := by
  have hz : szL (ns.map W.int) ≤ ns.length * 1905 := szL_ints fun n hn => lt2_log2' (h n hn) (by omega)
  have := Nat.mul_le_mul_right 1905 hl
  have hf : fineL (ns.map W.int) = true := fineL_ints fun n hn => by
    have := lt2_log2' (h n hn) (show 1900 ≤ 1900 by omega)
    omega
  exact repr_ok (by simpa using hf) (by simp [depL_ints]) (by simp; omega)
/-! ## least ones -/
theorem minF_ints {x : Int} {r : List Int} : minF (.int x :: r.map W.int) = some (.int (leastI x r)) := by
  rw [← List.map_cons (f := W.int)]
  unfold minF; rw [intsOf_ints]
theorem maxF_ints {x : Int} {r : List Int} : maxF (.int x :: r.map W.int) = some (.int (mostI x r)) := by
  rw [← List.map_cons (f := W.int)]
  unfold maxF; rw [intsOf_ints]
def pairW (p : Int × Int) : W := .tup [.int p.1, .int p.2]
@[simp] theorem idx_pair0 {p : Int × Int} : idxF (pairW p) (.int 0) = some (.int p.1) := by simp [pairW]
@[simp] theorem idx_pair1 {p : Int × Int} : idxF (pairW p) (.int 1) = some (.int p.2) := by simp [pairW]
theorem pairsOf_pairs (ps : List (Int × Int)) : pairsOf (ps.map pairW) = some ps := by
  induction ps with
  | nil => rfl
  | cons p r ih => rw [List.map_cons, pairsOf, ih]; rfl
theorem minF_pairs {x : Int × Int} {r : List (Int × Int)} : minF (pairW x :: r.map pairW) = some (pairW (leastP x r)) := by
  rw [← List.map_cons (f := pairW)]
  unfold minF
  rw [pairsOf_pairs]
  rfl
theorem leastP_fst : ∀ (r : List (Int × Int)) (x : Int × Int), (leastP x r).1 = leastI x.1 (r.map (·.1))
  | [], x => rfl
  | y :: r, x => by
    rw [leastP, List.map_cons, leastI]
    by_cases h : lessP y x = true
    · rw [if_pos h, leastP_fst r y]
      have := lessP_iff.mp h
      by_cases h' : y.1 < x.1
      · rw [if_pos h']
      · rw [if_neg h']; congr 1; omega
    · rw [if_neg h, leastP_fst r x]
      have := fun z => h (lessP_iff.mpr (.inl z))
      rw [if_neg this]
theorem leastP_mem : ∀ (r : List (Int × Int)) (x : Int × Int), leastP x r ∈ x :: r
  | [], x => by simp [leastP]
  | y :: r, x => by
    rw [leastP]
    have := leastP_mem r (if lessP y x = true then y else x)
    split at this <;> (rename_i h; simp only [h, if_true, if_false] at this ⊢; rcases List.mem_cons.mp this with e | e <;> simp [e])
@[simp] theorem has_pairW {q : Int × Int} : (pairW q).has p = false := by simp [pairW]
@[simp] theorem hasL_pairs {ps : List (Int × Int)} : hasL p (ps.map pairW) = false := hasL_map fun _ _ => has_pairW
@[simp] theorem mapF_pairW {q : Int × Int} : (pairW q).mapF f = pairW q := by simp [pairW]
@[simp] theorem mapL_pairs {ps : List (Int × Int)} : mapL f (ps.map pairW) = ps.map pairW := mapL_map fun _ _ => mapF_pairW
end
/-! ## comprehensions over rows -/
theorem fm_range_succ {α : Type} {f : Nat → Option α} (j : Nat) : (List.range (j + 1)).filterMap f = (List.range j).filterMap f ++ (f j).toList := by
  rw [List.range_succ, List.filterMap_append]
  cases h : f j <;> simp [List.filterMap_cons, h]
theorem comp_fm {step : W → Env → R (Option W)} {Q : List W → Env → Prop} {X : ExC} {n : Nat} {g : Nat → W} {env : Env} (h : Nat → Option W) (hs : n ≤ 16777216) (st : ∀ k, k < n → (step (g k) env).wp (fun o env' => o = h k ∧ env' = env) noX)
    (fin : Q ((List.range n).filterMap h) env) : (compLoop step (tabW n g) [] env).wp Q X := by
  refine compLoop_wp (fun k acc env' => acc = (List.range k).filterMap h ∧ env' = env) ⟨by simp, rfl⟩ (fun k x acc env' e hI => ?_) fun ws env' hI => ?_
  · obtain ⟨rfl, rfl⟩ := hI
    obtain ⟨lt, rfl⟩ := tabW_in e
    refine R.wp_of (st k lt) fun o env' ho => ?_
    obtain ⟨ho, rfl⟩ := ho
    rw [fm_range_succ]
    cases q : h k with
    | none => rw [q] at ho; subst ho; exact ⟨by simp, rfl⟩
    | some w =>
      rw [q] at ho; subst ho
      refine ⟨?_, by simp, rfl⟩
      have := List.length_filterMap_le h (List.range k)
      rw [List.length_range] at this
      show _ < szLine
      rw [szLine_lit]; omega
  · obtain ⟨rfl, rfl⟩ := hI
    rw [tabW_len]; exact fin
theorem comp_tab {step : W → Env → R (Option W)} {Q : List W → Env → Prop} {X : ExC} {n : Nat} {g : Nat → W} {env : Env} (h : Nat → W) (hs : n ≤ 16777216) (st : ∀ k, k < n → (step (g k) env).wp (fun o env' => o = some (h k) ∧ env' = env) noX)
    (fin : Q (tabW n h) env) : (compLoop step (tabW n g) [] env).wp Q X := by
  refine comp_fm (fun k => some (h k)) hs st ?_
  have : (List.range n).filterMap (fun k => some (h k)) = tabW n h := by unfold tabW; rw [← List.filterMap_eq_map]; rfl
  rw [this]; exact fin
@[simp] theorem eq_wO_int {a : Option Int} {i : Int} : eqF (wO a) (.int i) = some (decide (a = some i)) := by
  rw [← wO_some, eq_wO]
@[simp] theorem eq_int_wO {a : Option Int} {i : Int} : eqF (.int i) (wO a) = some (decide (some i = a)) := by
  rw [← wO_some, eq_wO]
theorem blsOf_tab {n : Nat} {f : Nat → Bool} : blsOf (tabW n fun k => .bl (f k)) = some ((List.range n).map f) := by
  unfold tabW
  rw [show (fun k => W.bl (f k)) = W.bl ∘ f from rfl, ← List.map_map, blsOf_bls]
theorem all_true {n : Nat} : ((List.range n).map fun _ => true).all id = true := by
  simp
/-- a comprehension that draws: one value of α each time -/
theorem comp_st {α σ : Type} {step : W → Env → R (Option W)} {Q : List W → Env → Prop} {X : ExC} {n : Nat} {g : Nat → W} {s0 : σ} (enc : α → W) (E : σ → Env) (S : Nat → σ → Prop) (V : α → Prop) (h0 : S 0 s0) (hs : n ≤ 16777216)
    (st : ∀ k s, k < n → S k s → (step (g k) (E s)).wp (fun o env' => ∃ x s', o = some (enc x) ∧ V x ∧ env' = E s' ∧ S (k + 1) s') X)
    (fin : ∀ (xs : List α) (s : σ), xs.length = n → (∀ x ∈ xs, V x) → S n s → Q (xs.map enc) (E s)) : (compLoop step (tabW n g) [] (E s0)).wp Q X := by
  refine compLoop_wp (fun k acc env' => ∃ (xs : List α) (s : σ), acc = xs.map enc ∧ xs.length = k ∧ (∀ x ∈ xs, V x) ∧ env' = E s ∧ S k s) ⟨[], s0, rfl, rfl, by simp, rfl, h0⟩ (fun k x acc env' e hI => ?_) fun ws env' hI => ?_
  · obtain ⟨xs, s, rfl, hl, hv, rfl, hS⟩ := hI
    obtain ⟨lt, rfl⟩ := tabW_in e
    refine R.wp_mono (st k s lt hS) (fun o env' ho => ?_) fun _ _ _ h => h
    obtain ⟨x, s', rfl, vx, rfl, hS'⟩ := ho
    refine ⟨?_, xs ++ [x], s', by simp, by simp [hl], ?_, rfl, hS'⟩
    · show _ < szLine
      rw [szLine_lit, List.length_map, hl]; omega
    · intro y hy
      rcases List.mem_append.mp hy with hy | hy
      · exact hv y hy
      · rw [List.mem_singleton.mp hy]; exact vx
  · obtain ⟨xs, s, rfl, hl, hv, rfl, hS⟩ := hI
    rw [tabW_len] at hl hS
    exact fin xs s hl hv hS
/-- over a list of values of α: those that pass, changed -/
theorem comp_lfm {α : Type} {step : W → Env → R (Option W)} {Q : List W → Env → Prop} {X : ExC} {l : List α} {g : α → W} {env : Env} (h : α → Option W) (hs : l.length ≤ 16777216) (st : ∀ x, x ∈ l → (step (g x) env).wp (fun o env' => o = h x ∧ env' = env) noX)
    (fin : Q (l.filterMap h) env) : (compLoop step (l.map g) [] env).wp Q X := by
  refine compLoop_wp (fun k acc env' => acc = (l.take k).filterMap h ∧ env' = env) ⟨by simp, rfl⟩ (fun k x acc env' e hI => ?_) fun ws env' hI => ?_
  · obtain ⟨rfl, rfl⟩ := hI
    rw [List.getElem?_map] at e
    cases q : l[k]? with
    | none => rw [q] at e; cases e
    | some y =>
      rw [q] at e
      cases (show some (g y) = some x from e)
      have lt := (List.getElem?_eq_some_iff.mp q).1
      refine R.wp_of (st y (List.mem_of_getElem? q)) fun o env' ho => ?_
      obtain ⟨ho, rfl⟩ := ho
      rw [take_succ_at q, List.filterMap_append]
      cases q2 : h y with
      | none => rw [q2] at ho; subst ho; exact ⟨by simp [q2], rfl⟩
      | some w =>
        rw [q2] at ho; subst ho
        refine ⟨?_, by simp [q2], rfl⟩
        have := List.length_filterMap_le h (l.take k)
        rw [List.length_take] at this
        show _ < szLine
        rw [szLine_lit]; omega
  · obtain ⟨rfl, rfl⟩ := hI
    rw [List.length_map, List.take_length]; exact fin
theorem fm_congr {α β : Type} {f g : α → Option β} : ∀ {l : List α}, (∀ x ∈ l, f x = g x) → l.filterMap f = l.filterMap g
  | [], _ => rfl
  | x :: l, h => by rw [List.filterMap_cons, List.filterMap_cons, h x (by simp), fm_congr fun y hy => h y (by simp [hy])]
theorem fm_filter_map {α : Type} {l : List α} {c : α → Bool} {g : α → W} : l.filterMap (fun x => if c x = true then some (g x) else none) = (l.filter c).map g := by
  induction l with
  | nil => rfl
  | cons x l ih => by_cases q : c x = true <;> simp [List.filterMap_cons, List.filter_cons, q, ih]
@[simp] theorem hasL_mapint {α : Type} {l : List α} {g : α → Int} {p : Fl → Bool} : hasL p (l.map fun x => W.int (g x)) = false := hasL_map fun _ _ => has_int
@[simp] theorem mapL_mapint {α : Type} {l : List α} {g : α → Int} {f : Fl → Fl} : mapL f (l.map fun x => W.int (g x)) = l.map fun x => W.int (g x) := mapL_map fun _ _ => mapF_int
@[simp] theorem intsOf_mapint {α : Type} {l : List α} {g : α → Int} : intsOf (l.map fun x => W.int (g x)) = some (l.map g) := by
  rw [show (fun x => W.int (g x)) = W.int ∘ g from rfl, ← List.map_map, intsOf_ints]
theorem repr_tab {n : Nat} {f : Nat → Int} (h : ∀ k, k < n → lt2 1900 (f k)) (hn : n ≤ 5000) : bltF .repr [.tup (tabI n f)] = some (.str (W.tup (tabI n f)).dat.shown) := by
  rw [tab_ints]
  refine repr_tupI (fun x hx => ?_) (by simpa using hn)
  obtain ⟨k, hk, rfl⟩ := List.mem_map.mp hx
  exact h k (by simpa using hk)
theorem mapIdx_tab {n : Nat} {g : Nat → W} {f : Nat → W → W} : (tabW n g).mapIdx f = tabW n fun k => f k (g k) := by
  apply List.ext_getElem?
  intro i
  rw [List.getElem?_mapIdx]
  by_cases h : i < n
  · rw [tabW_at h, tabW_at h]; rfl
  · rw [List.getElem?_eq_none (by simpa using h), List.getElem?_eq_none (by simpa using h)]; rfl
end VL
set_option Elab.async false
set_option linter.all false
set_option maxRecDepth 100000
set_option maxHeartbeats 4000000
namespace VL
open PySem L2
theorem mut_pop1 {ws : List W} {i : Int} : mutF .pop (.lst .own ws) [.int i] = (seqIndex? i ws.length).bind fun k => (ws[k]?).bind fun w => VL.opt (decide (-(2 ^ 62) ≤ i) && decide (i < 2 ^ 62)) (.lst .own (ws.eraseIdx k), w) := (rfl)
@[simp] theorem mut_pop0 {ws : List W} : mutF .pop (.lst .own ws) [] = (ws[ws.length - 1]?).bind fun w => some (.lst .own (ws.eraseIdx (ws.length - 1)), w) := (rfl)
theorem seqIx {i : Int} {n : Nat} (h0 : 0 ≤ i) (h : i < n) : seqIndex? i n = some i.toNat := by
  unfold seqIndex?
  simp
  omega
theorem getK_set_same {k : Key} {w : W} : ∀ {kvs : List (Key × W)}, getK k (setK k w kvs) = some w
  | [] => by simp
  | (g, x) :: r => by
    rw [setK]
    by_cases h : g = k
    · simp [h]
    · rw [if_neg h, getK, if_neg h, getK_set_same]
theorem getK_set_ne {k g : Key} {w : W} (h : g ≠ k) : ∀ {kvs : List (Key × W)}, getK k (setK g w kvs) = getK k kvs
  | [] => by simp [h]
  | (i, x) :: r => by
    rw [setK]
    by_cases e : i = g
    · subst e; simp [h]
    · rw [if_neg e, getK, getK]
      split
      · rfl
      · exact getK_set_ne h
theorem getK_merge {α : Type} {κ : α → Key} {G : α → W} {k : Key} {w : W} : ∀ {l : List α} {kvs : List (Key × W)}, (∀ p ∈ l, κ p = k → G p = w) → (k ∈ l.map κ ∨ getK k kvs = some w) → getK k (mergeW kvs (l.map fun p => (κ p, G p))) = some w
  | [], kvs, _, h => by
    rcases h with h | h
    · simp at h
    · exact h
  | p :: l, kvs, hp, h => by
    show getK k (mergeW (setK (κ p) (G p) kvs) (l.map fun p => (κ p, G p))) = some w
    refine getK_merge (fun q hq => hp q (by simp [hq])) ?_
    by_cases e : κ p = k
    · right; rw [e, getK_set_same, hp p (by simp) e]
    · rw [getK_set_ne e]
      rcases h with h | h
      · rw [List.map_cons, List.mem_cons] at h
        exact .inl (h.resolve_left fun z => e z.symm)
      · exact .inr h
theorem kpairs_map {α : Type} {κ : α → Int} {G : α → W} : ∀ {l : List α}, kpairs (l.map fun p => .tup [.int (κ p), G p]) = some (l.map fun p => (.inl (κ p), G p))
  | [] => rfl
  | p :: l => by
    rw [List.map_cons, kpairs, kpairs_map]; rfl
theorem hasK_set {p : Fl → Bool} {k : Key} {w : W} (hw : w.has p = false) : ∀ {kvs : List (Key × W)}, hasK p kvs = false → hasK p (setK k w kvs) = false
  | [], _ => by simp [hw]
  | (g, x) :: r, h => by
    rw [hasK_cons, Bool.or_eq_false_iff] at h
    rw [setK]
    split
    · rw [hasK_cons, hw, h.2]; rfl
    · rw [hasK_cons, h.1, hasK_set hw h.2]; rfl
theorem mapK_set {f : Fl → Fl} {k : Key} {w : W} (hw : w.mapF f = w) : ∀ {kvs : List (Key × W)}, mapK f kvs = kvs → mapK f (setK k w kvs) = setK k w kvs
  | [], _ => by simp [hw]
  | (g, x) :: r, h => by
    rw [mapK_cons, List.cons.injEq, Prod.mk.injEq] at h
    rw [setK]
    split
    · rw [mapK_cons, hw, h.2]
    · rw [mapK_cons, h.1.2, mapK_set hw h.2]
theorem hasK_merge {p : Fl → Bool} : ∀ {more kvs : List (Key × W)}, (∀ x ∈ more, x.2.has p = false) → hasK p kvs = false → hasK p (mergeW kvs more) = false
  | [], _, _, h => h
  | (k, w) :: r, kvs, hm, h => hasK_merge (more := r) (fun x hx => hm x (by simp [hx])) (hasK_set (hm (k, w) (by simp)) h)
theorem mapK_merge {f : Fl → Fl} : ∀ {more kvs : List (Key × W)}, (∀ x ∈ more, x.2.mapF f = x.2) → mapK f kvs = kvs → mapK f (mergeW kvs more) = mergeW kvs more
  | [], _, _, h => h
  | (k, w) :: r, kvs, hm, h => mapK_merge (more := r) (fun x hx => hm x (by simp [hx])) (mapK_set (hm (k, w) (by simp)) h)
theorem setK_new {k : Key} {w : W} : ∀ {kvs : List (Key × W)}, k ∉ kvs.map (·.1) → setK k w kvs = kvs ++ [(k, w)]
  | [], _ => rfl
  | (g, x) :: r, h => by
    rw [List.map_cons, List.mem_cons, not_or] at h
    rw [setK, if_neg fun z => h.1 z.symm, setK_new h.2]; rfl
theorem mergeW_new : ∀ {more kvs : List (Key × W)}, ((kvs ++ more).map (·.1)).Nodup → mergeW kvs more = kvs ++ more
  | [], kvs, _ => by rw [mergeW, List.append_nil]
  | (k, w) :: r, kvs, h => by
    rw [mergeW]
    have h1 : k ∉ kvs.map (·.1) := by
      rw [List.map_append, List.nodup_append] at h
      intro z
      exact h.2.2 k z k (by simp) rfl
    rw [setK_new h1, mergeW_new (by simpa using h)]
    simp
theorem dcomp_all {α : Type} {step : W → Env → R (Option (Key × W))} {Q : List (Key × W) → Env → Prop} {X : ExC} {g : α → W} {κ : α → Key} {G : α → W} {env : Env} : ∀ {l : List α} {acc : List (Key × W)}, acc.length + l.length ≤ 16777216 → (∀ x, x ∈ l → (step (g x) env).wp (fun o env' => o = some (κ x, G x) ∧ env' = env) noX) →
    Q (mergeW acc (l.map fun x => (κ x, G x))) env → (dcompLoop step (l.map g) acc env).wp Q X
  | [], acc, _, _, fin => fin
  | x :: l, acc, hs, st, fin => by
    rw [List.map_cons, dcompLoop, R.wp_bind]
    refine R.wp_of (st x (by simp)) fun o env' ho => ?_
    obtain ⟨rfl, rfl⟩ := ho
    rw [List.length_cons] at hs
    dsimp only
    rw [if_pos (by rw [szLine_lit]; omega)]
    exact dcomp_all (by have := setK_length (k := κ x) (w := G x) (kvs := acc); omega) (fun y hy => st y (by simp [hy])) fin
theorem fm_some {α β : Type} {g : α → β} {l : List α} : l.filterMap (fun p => some (g p)) = l.map g := by rw [← List.filterMap_eq_map]; rfl
theorem map_erase {α β : Type} {f : α → β} : ∀ {l : List α} {i : Nat}, (l.map f).eraseIdx i = (l.eraseIdx i).map f
  | [], _ => rfl
  | _ :: _, 0 => rfl
  | x :: l, i + 1 => by simp [map_erase (l := l) (i := i)]
theorem mut_popI {ns : List Int} {j : Nat} (h : j < ns.length) (hl : ns.length ≤ 16777216) : mutF .pop (.lst .own (ns.map W.int)) [.int (j : Int)] = some (.lst .own ((ns.eraseIdx j).map W.int), .int ns[j]) := by
  rw [mut_pop1, seqIx (i := (j : Int)) (by omega) (by rw [List.length_map]; omega)]
  have e : (ns.map W.int)[j]? = some (.int ns[j]) := by rw [List.getElem?_map, List.getElem?_eq_getElem h]; rfl
  have d : (decide (-(2 ^ 62) ≤ (j : Int)) && decide ((j : Int) < 2 ^ 62)) = true := by
    rw [decide_eq_true (by omega : -(2 ^ 62) ≤ (j : Int)), decide_eq_true (by omega : (j : Int) < 2 ^ 62)]; rfl
  simp only [Option.bind_some, Int.toNat_natCast]
  rw [e, Option.bind_some, d, map_erase]
  rfl
theorem erase_perm {α : Type} : ∀ {l : List α} {i : Nat} (h : i < l.length), (l[i] :: l.eraseIdx i).Perm l
  | x :: l, 0, _ => .refl _
  | x :: l, i + 1, h => by
    have := erase_perm (l := l) (i := i) (by simpa using h)
    simp only [List.getElem_cons_succ, List.eraseIdx_cons_succ]
    exact (List.Perm.swap _ _ _).trans (this.cons x)
theorem O.wp_of {o : O} {N0 N B C : Env → Env → Prop} {T : W → Env → Prop} {X : ExC} (h : o.wp N0 (fun _ _ => False) (fun _ _ => False) (fun _ _ => False) noX) (hN : ∀ ro env, N0 ro env → N ro env) : o.wp N B C T X :=
  O.wp_mono h hN (fun _ _ z => z.elim) (fun _ _ z => z.elim) (fun _ _ z => z.elim) (fun _ _ _ z => z.elim)
@[simp] theorem mapL_app {f : Fl → Fl} : ∀ {a b : List W}, mapL f (a ++ b) = mapL f a ++ mapL f b
  | [], _ => rfl
  | x :: a, b => by rw [List.cons_append, mapL_cons, mapL_app, mapL_cons, List.cons_append]
end VL
set_option maxRecDepth 100000
set_option maxHeartbeats 4000000
namespace LW
open PySem L2 VL
def top (i : Nat) : Stmt := PySem.Challenge.pw_alikecrowds_k25_stretches_losses_and_one.main.body.getD i (.Pass ⟨0, 0, 0, 0⟩)
def nmL : List Str := ["own_values", "own_sums", "loss", "least", "cuts"]
def bltL : List Str := ["abs", "all", "bool", "dict", "int", "isinstance", "len", "list", "max", "min", "range", "repr", "sorted", "sum", "tuple", "zip"]
def M0 : MC := { N := [], sc := defScope (top 0), nm := nmL, nF := 2, fns := [], blt := bltL, cel := none }
def gvF (w : W) : Fn := ⟨[], fun _ => .ok w []⟩
@[simp] theorem md_gv (w : W) : (gvF w).md = [] := (rfl)
@[simp] theorem run_gv (w : W) (us : List W) : (gvF w).run us = .ok w [] := (rfl)
def R0 : List Fn := [(gvF (.int 1000000)), (gvF (.int 200))]
def I0 : List FI := [.gv "MOST_VALUE", .gv "MOST_VALUES"]
/-! ### is_integer -/
abbrev s_is_integer : Stmt := top 11
def N_is_integer : List Str := ["value"]
def ir_is_integer : List IS := [(.ret (.ands [(.isin (.var 0) .int), (.dnot (.isin (.var 0) .bool))]))]
def F_is_integer : Fn := ⟨[.lent], runDef (tab R0) [.lent] (N_is_integer).length ir_is_integer⟩
def M_is_integer : MC := { N := N_is_integer, sc := defScope s_is_integer, nm := nmL, nF := 2, fns := I0, blt := bltL, cel := none }
@[simp] theorem md_is_integer : F_is_integer.md = [.lent] := (rfl)
theorem wp_is_integer {us : List W} {Q : W → VL.Env → Prop} {X : ExC} (h : (evSs (tab R0) [] ir_is_integer (roOf [.lent] us ++ []) (envOf [.lent] us ++ [])).wp (fun _ env => onE (keepB [.lent] env) fun e => Q .non e) (fun _ _ => False) (fun _ _ => False) (fun w env => onE (keepB [.lent] env) fun e => Q w e) (fun c w env => onE (keepB [.lent] env) fun e => X c w e)) : (F_is_integer.run us).wp Q X := runDef_wp h
theorem chk_is_integer : okSs M_is_integer ir_is_integer (defBody s_is_integer) = true := by decide +kernel
theorem sc_is_integer : FnScope N_is_integer ["value"] (defScope s_is_integer) := ⟨rfl, rfl, rfl, by decide +kernel, rfl, by decide +kernel, by decide +kernel⟩
/-! ### Line.__init__ -/
abbrev s_Line_init : Stmt := inClass (top 22) 0
def N_Line_init : List Str := ["self", "values", "value"]
def ir_Line_init : List IS := [(.asg (.tup [(.fld 0 [] 0), (.fld 0 [] 1)]) (.tup [(.blt .sorted [(.var 1)]), (.lst [(.lit (.int 0))])])), (.frz 0 [.f 0]), (.fors (.name 2) (.val (.lend [0] (.fld (.var 0) 0))) [(.expr (.mut 0 [.f 1] .append [(.bin .add (.idx (.fld (.var 0) 1) (.neg (.lit (.int 1)))) (.var 2))]))])]
def F_Line_init : Fn := ⟨[.bor, .lent], runDef (tab R0) [.bor, .lent] (N_Line_init).length ir_Line_init⟩
def M_Line_init : MC := { N := N_Line_init, sc := defScope s_Line_init, nm := nmL, nF := 2, fns := I0, blt := bltL, cel := none }
@[simp] theorem md_Line_init : F_Line_init.md = [.bor, .lent] := (rfl)
theorem wp_Line_init {us : List W} {Q : W → VL.Env → Prop} {X : ExC} (h : (evSs (tab R0) [0] ir_Line_init (roOf [.bor, .lent] us ++ [none]) (envOf [.bor, .lent] us ++ [none])).wp (fun _ env => onE (keepB [.bor, .lent] env) fun e => Q .non e) (fun _ _ => False) (fun _ _ => False) (fun w env => onE (keepB [.bor, .lent] env) fun e => Q w e) (fun c w env => onE (keepB [.bor, .lent] env) fun e => X c w e)) : (F_Line_init.run us).wp Q X := runDef_wp h
theorem chk_Line_init : okSs M_Line_init ir_Line_init (defBody s_Line_init) = true := by decide +kernel
theorem sc_Line_init : FnScope N_Line_init ["self", "values"] (defScope s_Line_init) := ⟨rfl, rfl, rfl, by decide +kernel, rfl, by decide +kernel, by decide +kernel⟩
/-! ### Line.loss -/
abbrev s_Line_loss : Stmt := inClass (top 22) 1
def N_Line_loss : List Str := ["self", "begin", "end", "middle", "less", "more"]
def ir_Line_loss : List IS := [(.asg (.name 3) (.bin .fdiv (.bin .add (.var 1) (.var 2)) (.lit (.int 2)))), (.asg (.name 4) (.bin .sub (.idx (.fld (.var 0) 1) (.var 3)) (.idx (.fld (.var 0) 1) (.var 1)))), (.asg (.name 5) (.bin .sub (.idx (.fld (.var 0) 1) (.var 2)) (.idx (.fld (.var 0) 1) (.var 3)))), (.ret (.bin .add (.bin .sub (.var 5) (.var 4)) (.bin .mul (.idx (.fld (.var 0) 0) (.var 3)) (.bin .sub (.bin .sub (.var 3) (.var 1)) (.bin .sub (.var 2) (.var 3))))))]
def F_Line_loss : Fn := ⟨[.lent, .lent, .lent], runDef (tab R0) [.lent, .lent, .lent] (N_Line_loss).length ir_Line_loss⟩
def M_Line_loss : MC := { N := N_Line_loss, sc := defScope s_Line_loss, nm := nmL, nF := 2, fns := I0, blt := bltL, cel := none }
@[simp] theorem md_Line_loss : F_Line_loss.md = [.lent, .lent, .lent] := (rfl)
theorem wp_Line_loss {us : List W} {Q : W → VL.Env → Prop} {X : ExC} (h : (evSs (tab R0) [] ir_Line_loss (roOf [.lent, .lent, .lent] us ++ [none, none, none]) (envOf [.lent, .lent, .lent] us ++ [none, none, none])).wp (fun _ env => onE (keepB [.lent, .lent, .lent] env) fun e => Q .non e) (fun _ _ => False) (fun _ _ => False) (fun w env => onE (keepB [.lent, .lent, .lent] env) fun e => Q w e) (fun c w env => onE (keepB [.lent, .lent, .lent] env) fun e => X c w e)) : (F_Line_loss.run us).wp Q X := runDef_wp h
theorem chk_Line_loss : okSs M_Line_loss ir_Line_loss (defBody s_Line_loss) = true := by decide +kernel
theorem sc_Line_loss : FnScope N_Line_loss ["self", "begin", "end"] (defScope s_Line_loss) := ⟨rfl, rfl, rfl, by decide +kernel, rfl, by decide +kernel, by decide +kernel⟩
/-! ### loss_of -/
abbrev s_loss_of : Stmt := top 27
def N_loss_of : List Str := ["values", "crowds", "shown", "crowd", "one", "place"]
def ir_loss_of : List IS := [(.ret (.blt .sum [(.comp [3, 4] (.zip (.var 1) (.var 2)) (.tup [(.name 3), (.name 4)]) [] (.blt .sum [(.comp [5] (.val (.var 3)) (.name 5) [] (.blt .abs [(.bin .sub (.idx (.var 0) (.var 5)) (.var 4))]))]))]))]
def F_loss_of : Fn := ⟨[.lent, .lent, .lent], runDef (tab R0) [.lent, .lent, .lent] (N_loss_of).length ir_loss_of⟩
def M_loss_of : MC := { N := N_loss_of, sc := defScope s_loss_of, nm := nmL, nF := 2, fns := I0, blt := bltL, cel := none }
@[simp] theorem md_loss_of : F_loss_of.md = [.lent, .lent, .lent] := (rfl)
theorem wp_loss_of {us : List W} {Q : W → VL.Env → Prop} {X : ExC} (h : (evSs (tab R0) [] ir_loss_of (roOf [.lent, .lent, .lent] us ++ [none, none, none]) (envOf [.lent, .lent, .lent] us ++ [none, none, none])).wp (fun _ env => onE (keepB [.lent, .lent, .lent] env) fun e => Q .non e) (fun _ _ => False) (fun _ _ => False) (fun w env => onE (keepB [.lent, .lent, .lent] env) fun e => Q w e) (fun c w env => onE (keepB [.lent, .lent, .lent] env) fun e => X c w e)) : (F_loss_of.run us).wp Q X := runDef_wp h
theorem chk_loss_of : okSs M_loss_of ir_loss_of (defBody s_loss_of) = true := by decide +kernel
theorem sc_loss_of : FnScope N_loss_of ["values", "crowds", "shown"] (defScope s_loss_of) := ⟨rfl, rfl, rfl, by decide +kernel, rfl, by decide +kernel, by decide +kernel⟩
/-! ### _law_pot -/
abbrev s_law_pot : Stmt := top 31
def N_law_pot : List Str := ["script", "place", "cell", "own", "small"]
def ir_law_pot : List IS := [(.asg (.name 2) (.ite (.val (.cmp .lt (.var 1) (.blt .len [(.var 0)]))) (.idx (.var 0) (.var 1)) (.bin .add (.bin .add (.bin .mod (.blt .sum [(.slc (.var 0) none (some (.lit (.int 1))))]) (.lit (.int 1000003))) (.bin .mul (.lit (.int 9241)) (.var 1))) (.lit (.int 1303))))), (.asg (.name 3) (.bin .mul (.bin .mod (.blt .int [(.blt .abs [(.var 2)])]) (.bin .pow (.bin .pow (.lit (.int 10)) (.lit (.int 60))) (.lit (.int 5)))) (.blt .int [(.cmp .ge (.blt .abs [(.var 2)]) (.bin .pow (.lit (.int 10)) (.lit (.int 18))))]))), (.asg (.name 4) (.bin .mod (.blt .int [(.var 2)]) (.lit (.int 2305843009213693951)))), (.ret (.lst [(.var 3), (.bin .mod (.blt .int [(.bin .add (.bin .add (.bin .mul (.var 4) (.lit (.int 91183))) (.bin .mul (.bin .mul (.lit (.int 9931)) (.var 1)) (.var 1))) (.lit (.int 1297)))]) (.lit (.int 2305843009213693921))), (.lit (.int 0))]))]
def F_law_pot : Fn := ⟨[.lent, .lent], runDef (tab R0) [.lent, .lent] (N_law_pot).length ir_law_pot⟩
def M_law_pot : MC := { N := N_law_pot, sc := defScope s_law_pot, nm := nmL, nF := 2, fns := I0, blt := bltL, cel := none }
@[simp] theorem md_law_pot : F_law_pot.md = [.lent, .lent] := (rfl)
theorem wp_law_pot {us : List W} {Q : W → VL.Env → Prop} {X : ExC} (h : (evSs (tab R0) [] ir_law_pot (roOf [.lent, .lent] us ++ [none, none, none]) (envOf [.lent, .lent] us ++ [none, none, none])).wp (fun _ env => onE (keepB [.lent, .lent] env) fun e => Q .non e) (fun _ _ => False) (fun _ _ => False) (fun w env => onE (keepB [.lent, .lent] env) fun e => Q w e) (fun c w env => onE (keepB [.lent, .lent] env) fun e => X c w e)) : (F_law_pot.run us).wp Q X := runDef_wp h
theorem chk_law_pot : okSs M_law_pot ir_law_pot (defBody s_law_pot) = true := by decide +kernel
theorem sc_law_pot : FnScope N_law_pot ["script", "place"] (defScope s_law_pot) := ⟨rfl, rfl, rfl, by decide +kernel, rfl, by decide +kernel, by decide +kernel⟩
/-! ### _law_take -/
abbrev s_law_take : Stmt := top 32
def N_law_take : List Str := ["pot", "upto", "digit", "prime", "blend"]
def ir_law_take : List IS := [(.ifs (.lend [0] (.val (.cmp .gt (.idx (.var 0) (.lit (.int 0))) (.lit (.int 0))))) [(.asg (.name 2) (.lend [0] (.bin .mod (.blt .int [(.idx (.var 0) (.lit (.int 0)))]) (.var 1)))), (.setx 0 [] (.lit (.int 0)) (.lend [0] (.bin .fdiv (.idx (.var 0) (.lit (.int 0))) (.var 1)))), (.ret (.var 2))] []), (.setx 0 [] (.lit (.int 2)) (.lend [0] (.bin .add (.idx (.var 0) (.lit (.int 2))) (.lit (.int 1))))), (.asg (.name 3) (.lend [0] (.idx (.lst [(.lit (.int 2147483647)), (.lit (.int 2147483629)), (.lit (.int 2147483587)), (.lit (.int 2147483579)), (.lit (.int 2147483563))]) (.bin .mod (.blt .int [(.idx (.var 0) (.lit (.int 2)))]) (.lit (.int 5)))))), (.asg (.name 4) (.lend [0] (.bin .mod (.blt .int [(.bin .pow (.blt .int [(.bin .add (.bin .add (.idx (.var 0) (.lit (.int 1))) (.bin .mul (.bin .mul (.lit (.int 108187)) (.idx (.var 0) (.lit (.int 2)))) (.idx (.var 0) (.lit (.int 2))))) (.lit (.int 1301)))]) (.lit (.int 3)))]) (.var 3)))), (.asg (.name 4) (.lend [0] (.bin .mod (.blt .int [(.bin .mul (.var 4) (.bin .add (.bin .mod (.blt .int [(.var 4)]) (.lit (.int 10009))) (.bin .mul (.lit (.int 89)) (.idx (.var 0) (.lit (.int 2))))))]) (.lit (.int 2305843009213693907))))), (.ret (.bin .mod (.blt .int [(.bin .fdiv (.var 4) (.lit (.int 173)))]) (.var 1)))]
def F_law_take : Fn := ⟨[.bor, .lent], runDef (tab R0) [.bor, .lent] (N_law_take).length ir_law_take⟩
def M_law_take : MC := { N := N_law_take, sc := defScope s_law_take, nm := nmL, nF := 2, fns := I0, blt := bltL, cel := none }
@[simp] theorem md_law_take : F_law_take.md = [.bor, .lent] := (rfl)
theorem wp_law_take {us : List W} {Q : W → VL.Env → Prop} {X : ExC} (h : (evSs (tab R0) [0] ir_law_take (roOf [.bor, .lent] us ++ [none, none, none]) (envOf [.bor, .lent] us ++ [none, none, none])).wp (fun _ env => onE (keepB [.bor, .lent] env) fun e => Q .non e) (fun _ _ => False) (fun _ _ => False) (fun w env => onE (keepB [.bor, .lent] env) fun e => Q w e) (fun c w env => onE (keepB [.bor, .lent] env) fun e => X c w e)) : (F_law_take.run us).wp Q X := runDef_wp h
theorem chk_law_take : okSs M_law_take ir_law_take (defBody s_law_take) = true := by decide +kernel
theorem sc_law_take : FnScope N_law_take ["pot", "upto"] (defScope s_law_take) := ⟨rfl, rfl, rfl, by decide +kernel, rfl, by decide +kernel, by decide +kernel⟩
/-! ### _law_cells -/
abbrev s_law_cells : Stmt := top 35
def N_law_cells : List Str := ["script", "most"]
def ir_law_cells : List IS := [(.ret (.lrg false none (.blt .max [(.lit (.int 1)), (.blt .min [(.var 1), (.blt .len [(.var 0)])])])))]
def F_law_cells : Fn := ⟨[.lent, .lent], runDef (tab R0) [.lent, .lent] (N_law_cells).length ir_law_cells⟩
def M_law_cells : MC := { N := N_law_cells, sc := defScope s_law_cells, nm := nmL, nF := 2, fns := I0, blt := bltL, cel := none }
@[simp] theorem md_law_cells : F_law_cells.md = [.lent, .lent] := (rfl)
theorem wp_law_cells {us : List W} {Q : W → VL.Env → Prop} {X : ExC} (h : (evSs (tab R0) [] ir_law_cells (roOf [.lent, .lent] us ++ []) (envOf [.lent, .lent] us ++ [])).wp (fun _ env => onE (keepB [.lent, .lent] env) fun e => Q .non e) (fun _ _ => False) (fun _ _ => False) (fun w env => onE (keepB [.lent, .lent] env) fun e => Q w e) (fun c w env => onE (keepB [.lent, .lent] env) fun e => X c w e)) : (F_law_cells.run us).wp Q X := runDef_wp h
theorem chk_law_cells : okSs M_law_cells ir_law_cells (defBody s_law_cells) = true := by decide +kernel
theorem sc_law_cells : FnScope N_law_cells ["script", "most"] (defScope s_law_cells) := ⟨rfl, rfl, rfl, by decide +kernel, rfl, by decide +kernel, by decide +kernel⟩
/-! ### _law_crowd_cost -/
abbrev s_law_crowd_cost : Stmt := top 37
def N_law_crowd_cost : List Str := ["members", "row", "one"]
def ir_law_crowd_cost : List IS := [(.asg (.name 1) (.blt .sorted [(.var 0)])), (.ret (.lend [1] (.blt .int [(.blt .sum [(.comp [2] (.val (.var 1)) (.name 2) [] (.blt .abs [(.bin .sub (.var 2) (.idx (.var 1) (.bin .fdiv (.blt .len [(.var 1)]) (.lit (.int 2)))))]))])])))]
def F_law_crowd_cost : Fn := ⟨[.lent], runDef (tab R0) [.lent] (N_law_crowd_cost).length ir_law_crowd_cost⟩
def M_law_crowd_cost : MC := { N := N_law_crowd_cost, sc := defScope s_law_crowd_cost, nm := nmL, nF := 2, fns := I0, blt := bltL, cel := none }
@[simp] theorem md_law_crowd_cost : F_law_crowd_cost.md = [.lent] := (rfl)
theorem wp_law_crowd_cost {us : List W} {Q : W → VL.Env → Prop} {X : ExC} (h : (evSs (tab R0) [] ir_law_crowd_cost (roOf [.lent] us ++ [none, none]) (envOf [.lent] us ++ [none, none])).wp (fun _ env => onE (keepB [.lent] env) fun e => Q .non e) (fun _ _ => False) (fun _ _ => False) (fun w env => onE (keepB [.lent] env) fun e => Q w e) (fun c w env => onE (keepB [.lent] env) fun e => X c w e)) : (F_law_crowd_cost.run us).wp Q X := runDef_wp h
theorem chk_law_crowd_cost : okSs M_law_crowd_cost ir_law_crowd_cost (defBody s_law_crowd_cost) = true := by decide +kernel
theorem sc_law_crowd_cost : FnScope N_law_crowd_cost ["members"] (defScope s_law_crowd_cost) := ⟨rfl, rfl, rfl, by decide +kernel, rfl, by decide +kernel, by decide +kernel⟩
/-! ### _law_middles_of -/
abbrev s_law_middles_of : Stmt := top 40
def N_law_middles_of : List Str := ["members", "some", "one", "costs", "best", "good", "place"]
def ir_law_middles_of : List IS := [(.asg (.name 1) (.lst [])), (.fors (.name 2) (.val (.var 0)) [(.expr (.mut 1 [] .extend [(.lst [(.bin .sub (.var 2) (.lit (.int 1))), (.var 2), (.bin .add (.var 2) (.lit (.int 1)))])]))]), (.asg (.name 3) (.lend [1] (.blt .dict [(.comp [6] (.val (.var 1)) (.name 6) [] (.tup [(.var 6), (.blt .sum [(.comp [2] (.val (.var 0)) (.name 2) [] (.blt .abs [(.bin .sub (.var 2) (.var 6))]))])]))]))), (.asg (.name 4) (.lend [1, 3] (.blt .min [(.comp [6] (.val (.var 1)) (.name 6) [] (.idx (.var 3) (.var 6)))]))), (.asg (.name 5) (.lend [1, 3] (.comp [6] (.val (.var 1)) (.name 6) [(.val (.cmp .eq (.idx (.var 3) (.var 6)) (.var 4)))] (.var 6)))), (.ret (.tup [(.lend [5] (.blt .int [(.blt .min [(.var 5)])])), (.lend [5] (.blt .int [(.blt .max [(.var 5)])])), (.blt .int [(.var 4)])]))]
def F_law_middles_of : Fn := ⟨[.lent], runDef (tab R0) [.lent] (N_law_middles_of).length ir_law_middles_of⟩
def M_law_middles_of : MC := { N := N_law_middles_of, sc := defScope s_law_middles_of, nm := nmL, nF := 2, fns := I0, blt := bltL, cel := none }
@[simp] theorem md_law_middles_of : F_law_middles_of.md = [.lent] := (rfl)
theorem wp_law_middles_of {us : List W} {Q : W → VL.Env → Prop} {X : ExC} (h : (evSs (tab R0) [] ir_law_middles_of (roOf [.lent] us ++ [none, none, none, none, none, none]) (envOf [.lent] us ++ [none, none, none, none, none, none])).wp (fun _ env => onE (keepB [.lent] env) fun e => Q .non e) (fun _ _ => False) (fun _ _ => False) (fun w env => onE (keepB [.lent] env) fun e => Q w e) (fun c w env => onE (keepB [.lent] env) fun e => X c w e)) : (F_law_middles_of.run us).wp Q X := runDef_wp h
theorem chk_law_middles_of : okSs M_law_middles_of ir_law_middles_of (defBody s_law_middles_of) = true := by decide +kernel
theorem sc_law_middles_of : FnScope N_law_middles_of ["members"] (defScope s_law_middles_of) := ⟨rfl, rfl, rfl, by decide +kernel, rfl, by decide +kernel, by decide +kernel⟩
def R1 : List Fn := [(gvF (.int 1000000)), (gvF (.int 200)), F_Line_loss, F_law_cells, F_law_crowd_cost, F_law_middles_of, F_law_pot, F_law_take, F_is_integer, F_loss_of]
def I1 : List FI := [.gv "MOST_VALUE", .gv "MOST_VALUES", .mt 0 2 2, .fn "_law_cells" 2 [], .fn "_law_crowd_cost" 1 [], .fn "_law_middles_of" 1 [], .fn "_law_pot" 2 [], .fn "_law_take" 2 [], .fn "is_integer" 1 [], .fn "loss_of" 3 []]
/-! ### is_within -/
abbrev s_is_within : Stmt := top 12
def N_is_within : List Str := ["value", "least", "most"]
def ir_is_within : List IS := [(.ret (.ands [(.call 8 [(.var 0)]), (.chain .le .le (.var 1) (.var 0) (.var 2))]))]
def F_is_within : Fn := ⟨[.lent, .lent, .lent], runDef (tab R1) [.lent, .lent, .lent] (N_is_within).length ir_is_within⟩
def M_is_within : MC := { N := N_is_within, sc := defScope s_is_within, nm := nmL, nF := 2, fns := I1, blt := bltL, cel := none }
@[simp] theorem md_is_within : F_is_within.md = [.lent, .lent, .lent] := (rfl)
theorem wp_is_within {us : List W} {Q : W → VL.Env → Prop} {X : ExC} (h : (evSs (tab R1) [] ir_is_within (roOf [.lent, .lent, .lent] us ++ []) (envOf [.lent, .lent, .lent] us ++ [])).wp (fun _ env => onE (keepB [.lent, .lent, .lent] env) fun e => Q .non e) (fun _ _ => False) (fun _ _ => False) (fun w env => onE (keepB [.lent, .lent, .lent] env) fun e => Q w e) (fun c w env => onE (keepB [.lent, .lent, .lent] env) fun e => X c w e)) : (F_is_within.run us).wp Q X := runDef_wp h
@[simp] theorem tR1_8 : tab R1 8 = F_is_integer := (rfl)
theorem chk_is_within : okSs M_is_within ir_is_within (defBody s_is_within) = true := by decide +kernel
theorem sc_is_within : FnScope N_is_within ["value", "least", "most"] (defScope s_is_within) := ⟨rfl, rfl, rfl, by decide +kernel, rfl, by decide +kernel, by decide +kernel⟩
/-! ### is_shown -/
abbrev s_is_shown : Stmt := top 21
def N_is_shown : List Str := ["crowds", "value", "one"]
def ir_is_shown : List IS := [(.ret (.ands [(.isin (.var 1) .tuple), (.cmp .eq (.blt .len [(.var 1)]) (.blt .len [(.var 0)])), (.blt .all [(.comp [2] (.val (.var 1)) (.name 2) [] (.call 8 [(.var 2)]))])]))]
def F_is_shown : Fn := ⟨[.lent, .lent], runDef (tab R1) [.lent, .lent] (N_is_shown).length ir_is_shown⟩
def M_is_shown : MC := { N := N_is_shown, sc := defScope s_is_shown, nm := nmL, nF := 2, fns := I1, blt := bltL, cel := none }
@[simp] theorem md_is_shown : F_is_shown.md = [.lent, .lent] := (rfl)
theorem wp_is_shown {us : List W} {Q : W → VL.Env → Prop} {X : ExC} (h : (evSs (tab R1) [] ir_is_shown (roOf [.lent, .lent] us ++ [none]) (envOf [.lent, .lent] us ++ [none])).wp (fun _ env => onE (keepB [.lent, .lent] env) fun e => Q .non e) (fun _ _ => False) (fun _ _ => False) (fun w env => onE (keepB [.lent, .lent] env) fun e => Q w e) (fun c w env => onE (keepB [.lent, .lent] env) fun e => X c w e)) : (F_is_shown.run us).wp Q X := runDef_wp h
theorem chk_is_shown : okSs M_is_shown ir_is_shown (defBody s_is_shown) = true := by decide +kernel
theorem sc_is_shown : FnScope N_is_shown ["crowds", "value"] (defScope s_is_shown) := ⟨rfl, rfl, rfl, by decide +kernel, rfl, by decide +kernel, by decide +kernel⟩
/-! ### Line.cuts -/
abbrev s_Line_cuts : Stmt := inClass (top 22) 2
def N_Line_cuts : List Str := ["self", "size", "found", "ahead", "end", "rows", "begin", "best"]
def ir_Line_cuts : List IS := [(.par2 2 3 (.lst [(.lit (.int 0))]) (.lst [(.lit .non)])), (.fors (.name 4) (.rng2 (.lit (.int 1)) (.bin .add (.blt .len [(.fld (.var 0) 0)]) (.lit (.int 1)))) [(.asg (.name 5) (.lst [])), (.fors (.name 6) (.rng2 (.blt .max [(.lit (.int 0)), (.bin .add (.bin .sub (.var 4) (.bin .mul (.lit (.int 2)) (.var 1))) (.lit (.int 1)))]) (.bin .add (.bin .sub (.var 4) (.var 1)) (.lit (.int 1)))) [(.ifs (.lend [2] (.val (.cmp .inn2 (.idx (.var 2) (.var 6)) (.lit .non)))) [(.expr (.mut 5 [] .append [(.tup [(.lend [2] (.bin .add (.idx (.var 2) (.var 6)) (.meth 0 2 2 (.var 0) [(.var 6), (.var 4)]))), (.var 6)])]))] [])]), (.asg (.name 7) (.lend [5] (.ite (.val (.var 5)) (.blt .min [(.var 5)]) (.tup [(.lit .non), (.lit .non)])))), (.expr (.mut 2 [] .append [(.idx (.var 7) (.lit (.int 0)))])), (.expr (.mut 3 [] .append [(.idx (.var 7) (.lit (.int 1)))]))]), (.ret (.tup [(.mov 2), (.mov 3)]))]
def F_Line_cuts : Fn := ⟨[.lent, .lent], runDef (tab R1) [.lent, .lent] (N_Line_cuts).length ir_Line_cuts⟩
def M_Line_cuts : MC := { N := N_Line_cuts, sc := defScope s_Line_cuts, nm := nmL, nF := 2, fns := I1, blt := bltL, cel := none }
@[simp] theorem md_Line_cuts : F_Line_cuts.md = [.lent, .lent] := (rfl)
theorem wp_Line_cuts {us : List W} {Q : W → VL.Env → Prop} {X : ExC} (h : (evSs (tab R1) [] ir_Line_cuts (roOf [.lent, .lent] us ++ [none, none, none, none, none, none]) (envOf [.lent, .lent] us ++ [none, none, none, none, none, none])).wp (fun _ env => onE (keepB [.lent, .lent] env) fun e => Q .non e) (fun _ _ => False) (fun _ _ => False) (fun w env => onE (keepB [.lent, .lent] env) fun e => Q w e) (fun c w env => onE (keepB [.lent, .lent] env) fun e => X c w e)) : (F_Line_cuts.run us).wp Q X := runDef_wp h
@[simp] theorem tR1_2 : tab R1 2 = F_Line_loss := (rfl)
theorem chk_Line_cuts : okSs M_Line_cuts ir_Line_cuts (defBody s_Line_cuts) = true := by decide +kernel
theorem sc_Line_cuts : FnScope N_Line_cuts ["self", "size"] (defScope s_Line_cuts) := ⟨rfl, rfl, rfl, by decide +kernel, rfl, by decide +kernel, by decide +kernel⟩
/-! ### _law_of -/
abbrev s_law_of : Stmt := top 33
def N_law_of : List Str := ["pot", "some"]
def ir_law_of : List IS := [(.ret (.idx (.var 1) (.call 7 [(.bor 0), (.blt .len [(.var 1)])])))]
def F_law_of : Fn := ⟨[.bor, .lent], runDef (tab R1) [.bor, .lent] (N_law_of).length ir_law_of⟩
def M_law_of : MC := { N := N_law_of, sc := defScope s_law_of, nm := nmL, nF := 2, fns := I1, blt := bltL, cel := none }
@[simp] theorem md_law_of : F_law_of.md = [.bor, .lent] := (rfl)
theorem wp_law_of {us : List W} {Q : W → VL.Env → Prop} {X : ExC} (h : (evSs (tab R1) [0] ir_law_of (roOf [.bor, .lent] us ++ []) (envOf [.bor, .lent] us ++ [])).wp (fun _ env => onE (keepB [.bor, .lent] env) fun e => Q .non e) (fun _ _ => False) (fun _ _ => False) (fun w env => onE (keepB [.bor, .lent] env) fun e => Q w e) (fun c w env => onE (keepB [.bor, .lent] env) fun e => X c w e)) : (F_law_of.run us).wp Q X := runDef_wp h
@[simp] theorem tR1_7 : tab R1 7 = F_law_take := (rfl)
theorem chk_law_of : okSs M_law_of ir_law_of (defBody s_law_of) = true := by decide +kernel
theorem sc_law_of : FnScope N_law_of ["pot", "some"] (defScope s_law_of) := ⟨rfl, rfl, rfl, by decide +kernel, rfl, by decide +kernel, by decide +kernel⟩
/-! ### _law_some -/
abbrev s_law_some : Stmt := top 34
def N_law_some : List Str := ["pot", "pool", "amount", "left", "found", "lap"]
def ir_law_some : List IS := [(.par2 3 4 (.blt .list [(.var 1)]) (.lst [])), (.fors (.name 5) (.rng1 (.var 2)) [(.expr (.mut 4 [] .append [(.mut 3 [] .pop [(.call 7 [(.bor 0), (.blt .len [(.var 3)])])])]))]), (.ret (.mov 4))]
def F_law_some : Fn := ⟨[.bor, .lent, .lent], runDef (tab R1) [.bor, .lent, .lent] (N_law_some).length ir_law_some⟩
def M_law_some : MC := { N := N_law_some, sc := defScope s_law_some, nm := nmL, nF := 2, fns := I1, blt := bltL, cel := none }
@[simp] theorem md_law_some : F_law_some.md = [.bor, .lent, .lent] := (rfl)
theorem wp_law_some {us : List W} {Q : W → VL.Env → Prop} {X : ExC} (h : (evSs (tab R1) [0] ir_law_some (roOf [.bor, .lent, .lent] us ++ [none, none, none]) (envOf [.bor, .lent, .lent] us ++ [none, none, none])).wp (fun _ env => onE (keepB [.bor, .lent, .lent] env) fun e => Q .non e) (fun _ _ => False) (fun _ _ => False) (fun w env => onE (keepB [.bor, .lent, .lent] env) fun e => Q w e) (fun c w env => onE (keepB [.bor, .lent, .lent] env) fun e => X c w e)) : (F_law_some.run us).wp Q X := runDef_wp h
theorem chk_law_some : okSs M_law_some ir_law_some (defBody s_law_some) = true := by decide +kernel
theorem sc_law_some : FnScope N_law_some ["pot", "pool", "amount"] (defScope s_law_some) := ⟨rfl, rfl, rfl, by decide +kernel, rfl, by decide +kernel, by decide +kernel⟩
/-! ### _law_cut_costs -/
abbrev s_law_cut_costs : Stmt := top 38
def N_law_cut_costs : List Str := ["values", "least", "row", "found", "end", "some", "begin"]
def ir_law_cut_costs : List IS := [(.par2 2 3 (.blt .sorted [(.var 0)]) (.lst [(.lit (.int 0))])), (.fors (.name 4) (.rng2 (.lit (.int 1)) (.lend [2] (.bin .add (.blt .len [(.var 2)]) (.lit (.int 1))))) [(.asg (.name 5) (.lst [])), (.fors (.name 6) (.rng1 (.bin .add (.bin .sub (.var 4) (.var 1)) (.lit (.int 1)))) [(.ifs (.lend [3] (.val (.cmp .inn2 (.idx (.var 3) (.var 6)) (.lit .non)))) [(.expr (.mut 5 [] .append [(.lend [2, 3] (.bin .add (.idx (.var 3) (.var 6)) (.call 4 [(.slc (.var 2) (some (.var 6)) (some (.var 4)))])))]))] [])]), (.expr (.mut 3 [] .append [(.lend [5] (.ite (.val (.cmp .ne (.var 5) (.lst []))) (.blt .min [(.var 5)]) (.lit .non)))]))]), (.ret (.mov 3))]
def F_law_cut_costs : Fn := ⟨[.lent, .lent], runDef (tab R1) [.lent, .lent] (N_law_cut_costs).length ir_law_cut_costs⟩
def M_law_cut_costs : MC := { N := N_law_cut_costs, sc := defScope s_law_cut_costs, nm := nmL, nF := 2, fns := I1, blt := bltL, cel := none }
@[simp] theorem md_law_cut_costs : F_law_cut_costs.md = [.lent, .lent] := (rfl)
theorem wp_law_cut_costs {us : List W} {Q : W → VL.Env → Prop} {X : ExC} (h : (evSs (tab R1) [] ir_law_cut_costs (roOf [.lent, .lent] us ++ [none, none, none, none, none]) (envOf [.lent, .lent] us ++ [none, none, none, none, none])).wp (fun _ env => onE (keepB [.lent, .lent] env) fun e => Q .non e) (fun _ _ => False) (fun _ _ => False) (fun w env => onE (keepB [.lent, .lent] env) fun e => Q w e) (fun c w env => onE (keepB [.lent, .lent] env) fun e => X c w e)) : (F_law_cut_costs.run us).wp Q X := runDef_wp h
@[simp] theorem tR1_4 : tab R1 4 = F_law_crowd_cost := (rfl)
theorem chk_law_cut_costs : okSs M_law_cut_costs ir_law_cut_costs (defBody s_law_cut_costs) = true := by decide +kernel
theorem sc_law_cut_costs : FnScope N_law_cut_costs ["values", "least"] (defScope s_law_cut_costs) := ⟨rfl, rfl, rfl, by decide +kernel, rfl, by decide +kernel, by decide +kernel⟩
def R2 : List Fn := [(gvF (.int 1000000)), (gvF (.int 200)), F_Line_loss, F_law_cells, F_law_crowd_cost, F_law_middles_of, F_law_pot, F_law_take, F_is_integer, F_loss_of, F_Line_init, F_Line_cuts, F_law_cut_costs, F_law_of, F_law_some, F_is_shown, F_is_within]
def I2 : List FI := [.gv "MOST_VALUE", .gv "MOST_VALUES", .mt 0 2 2, .fn "_law_cells" 2 [], .fn "_law_crowd_cost" 1 [], .fn "_law_middles_of" 1 [], .fn "_law_pot" 2 [], .fn "_law_take" 2 [], .fn "is_integer" 1 [], .fn "loss_of" 3 [], .mk 0 "Line" 1 [], .mt 0 4 1, .fn "_law_cut_costs" 2 [], .fn "_law_of" 2 [], .fn "_law_some" 3 [], .fn "is_shown" 2 [], .fn "is_within" 3 []]
/-! ### is_line_value -/
abbrev s_is_line_value : Stmt := top 16
def N_is_line_value : List Str := ["value"]
def ir_is_line_value : List IS := [(.ret (.call 16 [(.var 0), (.neg (.call 0 [])), (.call 0 [])]))]
def F_is_line_value : Fn := ⟨[.lent], runDef (tab R2) [.lent] (N_is_line_value).length ir_is_line_value⟩
def M_is_line_value : MC := { N := N_is_line_value, sc := defScope s_is_line_value, nm := nmL, nF := 2, fns := I2, blt := bltL, cel := none }
@[simp] theorem md_is_line_value : F_is_line_value.md = [.lent] := (rfl)
theorem wp_is_line_value {us : List W} {Q : W → VL.Env → Prop} {X : ExC} (h : (evSs (tab R2) [] ir_is_line_value (roOf [.lent] us ++ []) (envOf [.lent] us ++ [])).wp (fun _ env => onE (keepB [.lent] env) fun e => Q .non e) (fun _ _ => False) (fun _ _ => False) (fun w env => onE (keepB [.lent] env) fun e => Q w e) (fun c w env => onE (keepB [.lent] env) fun e => X c w e)) : (F_is_line_value.run us).wp Q X := runDef_wp h
@[simp] theorem tR2_0 : tab R2 0 = (gvF (.int 1000000)) := (rfl)
@[simp] theorem tR2_16 : tab R2 16 = F_is_within := (rfl)
theorem chk_is_line_value : okSs M_is_line_value ir_is_line_value (defBody s_is_line_value) = true := by decide +kernel
theorem sc_is_line_value : FnScope N_is_line_value ["value"] (defScope s_is_line_value) := ⟨rfl, rfl, rfl, by decide +kernel, rfl, by decide +kernel, by decide +kernel⟩
/-! ### are_crowds -/
abbrev s_are_crowds : Stmt := top 20
def N_are_crowds : List Str := ["many", "size", "value", "known", "crowd", "place", "one", "other"]
def ir_are_crowds : List IS := [(.ifs (.ors [(.dnot (.val (.isin (.var 2) .tuple))), (.dnot (.val (.blt .all [(.comp [4] (.val (.var 2)) (.name 4) [] (.isin (.var 4) .tuple))])))]) [(.ret (.lit (.bl false)))] []), (.asg (.name 3) .dct0), (.fors (.name 4) (.val (.var 2)) [(.ifs (.ors [(.val (.cmp .lt (.blt .len [(.var 4)]) (.var 1))), (.dnot (.val (.blt .all [(.comp [5] (.val (.var 4)) (.name 5) [] (.call 16 [(.var 5), (.lit (.int 0)), (.bin .sub (.var 0) (.lit (.int 1)))]))])))]) [(.ret (.lit (.bl false)))] []), (.ifs (.dnot (.val (.blt .all [(.comp [6, 7] (.zip (.var 4) (.slc (.var 4) (some (.lit (.int 1))) none)) (.tup [(.name 6), (.name 7)]) [] (.cmp .lt (.var 6) (.var 7)))]))) [(.ret (.lit (.bl false)))] []), (.expr (.mut 3 [] .update [(.dcomp [5] (.val (.var 4)) (.name 5) [] (.var 5) (.lit (.bl true)))]))]), (.ret (.lend [3] (.ands [(.cmp .eq (.blt .len [(.var 3)]) (.var 0)), (.cmp .eq (.blt .sum [(.comp [4] (.val (.var 2)) (.name 4) [] (.blt .len [(.var 4)]))]) (.var 0))])))]
def F_are_crowds : Fn := ⟨[.lent, .lent, .lent], runDef (tab R2) [.lent, .lent, .lent] (N_are_crowds).length ir_are_crowds⟩
def M_are_crowds : MC := { N := N_are_crowds, sc := defScope s_are_crowds, nm := nmL, nF := 2, fns := I2, blt := bltL, cel := none }
@[simp] theorem md_are_crowds : F_are_crowds.md = [.lent, .lent, .lent] := (rfl)
theorem wp_are_crowds {us : List W} {Q : W → VL.Env → Prop} {X : ExC} (h : (evSs (tab R2) [] ir_are_crowds (roOf [.lent, .lent, .lent] us ++ [none, none, none, none, none]) (envOf [.lent, .lent, .lent] us ++ [none, none, none, none, none])).wp (fun _ env => onE (keepB [.lent, .lent, .lent] env) fun e => Q .non e) (fun _ _ => False) (fun _ _ => False) (fun w env => onE (keepB [.lent, .lent, .lent] env) fun e => Q w e) (fun c w env => onE (keepB [.lent, .lent, .lent] env) fun e => X c w e)) : (F_are_crowds.run us).wp Q X := runDef_wp h
theorem chk_are_crowds : okSs M_are_crowds ir_are_crowds (defBody s_are_crowds) = true := by decide +kernel
theorem sc_are_crowds : FnScope N_are_crowds ["many", "size", "value"] (defScope s_are_crowds) := ⟨rfl, rfl, rfl, by decide +kernel, rfl, by decide +kernel, by decide +kernel⟩
/-! ### Line.least -/
abbrev s_Line_least : Stmt := inClass (top 22) 3
def N_Line_least : List Str := ["self", "size"]
def ir_Line_least : List IS := [(.ret (.idx (.idx (.meth 0 4 11 (.var 0) [(.var 1)]) (.lit (.int 0))) (.neg (.lit (.int 1)))))]
def F_Line_least : Fn := ⟨[.lent, .lent], runDef (tab R2) [.lent, .lent] (N_Line_least).length ir_Line_least⟩
def M_Line_least : MC := { N := N_Line_least, sc := defScope s_Line_least, nm := nmL, nF := 2, fns := I2, blt := bltL, cel := none }
@[simp] theorem md_Line_least : F_Line_least.md = [.lent, .lent] := (rfl)
theorem wp_Line_least {us : List W} {Q : W → VL.Env → Prop} {X : ExC} (h : (evSs (tab R2) [] ir_Line_least (roOf [.lent, .lent] us ++ []) (envOf [.lent, .lent] us ++ [])).wp (fun _ env => onE (keepB [.lent, .lent] env) fun e => Q .non e) (fun _ _ => False) (fun _ _ => False) (fun w env => onE (keepB [.lent, .lent] env) fun e => Q w e) (fun c w env => onE (keepB [.lent, .lent] env) fun e => X c w e)) : (F_Line_least.run us).wp Q X := runDef_wp h
@[simp] theorem tR2_11 : tab R2 11 = F_Line_cuts := (rfl)
theorem chk_Line_least : okSs M_Line_least ir_Line_least (defBody s_Line_least) = true := by decide +kernel
theorem sc_Line_least : FnScope N_Line_least ["self", "size"] (defScope s_Line_least) := ⟨rfl, rfl, rfl, by decide +kernel, rfl, by decide +kernel, by decide +kernel⟩
/-! ### _law_line_values -/
abbrev s_law_line_values : Stmt := top 36
def N_law_line_values : List Str := ["pot", "most", "amount", "way", "some", "found", "lap"]
def ir_law_line_values : List IS := [(.asg (.tup [(.name 2), (.name 3)]) (.tup [(.call 7 [(.bor 0), (.bin .add (.var 1) (.lit (.int 1)))]), (.call 7 [(.bor 0), (.lit (.int 4))])])), (.asg (.name 4) (.comp [6] (.rng1 (.bin .add (.lit (.int 1)) (.var 2))) (.name 6) [] (.blt .int [(.bin .add (.call 7 [(.bor 0), (.idx (.lst [(.lit (.int 3)), (.lit (.int 9)), (.lit (.int 2000)), (.lit (.int 7))]) (.var 3))]) (.idx (.lst [(.lit (.int 0)), (.neg (.lit (.int 4))), (.neg (.lit (.int 1000))), (.lit (.int 999990))]) (.var 3)))]))), (.asg (.name 5) (.lend [4] (.comp [6] (.rng1 (.var 2)) (.name 6) [] (.blt .int [(.call 13 [(.bor 0), (.var 4)])])))), (.ifs (.lend [5] (.ands [(.val (.cmp .ne (.var 5) (.lst []))), (.val (.cmp .eq (.call 7 [(.bor 0), (.lit (.int 6))]) (.lit (.int 0))))])) [(.setx 5 [] (.call 7 [(.bor 0), (.var 2)]) (.blt .int [(.call 13 [(.bor 0), (.lst [(.bin .pow (.lit (.int 10)) (.lit (.int 6))), (.neg (.bin .pow (.lit (.int 10)) (.lit (.int 6))))])])]))] []), (.ret (.lend [5] (.blt .tuple [(.var 5)])))]
def F_law_line_values : Fn := ⟨[.bor, .lent], runDef (tab R2) [.bor, .lent] (N_law_line_values).length ir_law_line_values⟩
def M_law_line_values : MC := { N := N_law_line_values, sc := defScope s_law_line_values, nm := nmL, nF := 2, fns := I2, blt := bltL, cel := none }
@[simp] theorem md_law_line_values : F_law_line_values.md = [.bor, .lent] := (rfl)
theorem wp_law_line_values {us : List W} {Q : W → VL.Env → Prop} {X : ExC} (h : (evSs (tab R2) [0] ir_law_line_values (roOf [.bor, .lent] us ++ [none, none, none, none, none]) (envOf [.bor, .lent] us ++ [none, none, none, none, none])).wp (fun _ env => onE (keepB [.bor, .lent] env) fun e => Q .non e) (fun _ _ => False) (fun _ _ => False) (fun w env => onE (keepB [.bor, .lent] env) fun e => Q w e) (fun c w env => onE (keepB [.bor, .lent] env) fun e => X c w e)) : (F_law_line_values.run us).wp Q X := runDef_wp h
@[simp] theorem tR2_7 : tab R2 7 = F_law_take := (rfl)
@[simp] theorem tR2_13 : tab R2 13 = F_law_of := (rfl)
theorem chk_law_line_values : okSs M_law_line_values ir_law_line_values (defBody s_law_line_values) = true := by decide +kernel
theorem sc_law_line_values : FnScope N_law_line_values ["pot", "most"] (defScope s_law_line_values) := ⟨rfl, rfl, rfl, by decide +kernel, rfl, by decide +kernel, by decide +kernel⟩
/-! ### _law_least -/
abbrev s_law_least : Stmt := top 39
def N_law_least : List Str := ["values", "least"]
def ir_law_least : List IS := [(.ret (.idx (.call 12 [(.var 0), (.var 1)]) (.neg (.lit (.int 1)))))]
def F_law_least : Fn := ⟨[.lent, .lent], runDef (tab R2) [.lent, .lent] (N_law_least).length ir_law_least⟩
def M_law_least : MC := { N := N_law_least, sc := defScope s_law_least, nm := nmL, nF := 2, fns := I2, blt := bltL, cel := none }
@[simp] theorem md_law_least : F_law_least.md = [.lent, .lent] := (rfl)
theorem wp_law_least {us : List W} {Q : W → VL.Env → Prop} {X : ExC} (h : (evSs (tab R2) [] ir_law_least (roOf [.lent, .lent] us ++ []) (envOf [.lent, .lent] us ++ [])).wp (fun _ env => onE (keepB [.lent, .lent] env) fun e => Q .non e) (fun _ _ => False) (fun _ _ => False) (fun w env => onE (keepB [.lent, .lent] env) fun e => Q w e) (fun c w env => onE (keepB [.lent, .lent] env) fun e => X c w e)) : (F_law_least.run us).wp Q X := runDef_wp h
@[simp] theorem tR2_12 : tab R2 12 = F_law_cut_costs := (rfl)
theorem chk_law_least : okSs M_law_least ir_law_least (defBody s_law_least) = true := by decide +kernel
theorem sc_law_least : FnScope N_law_least ["values", "least"] (defScope s_law_least) := ⟨rfl, rfl, rfl, by decide +kernel, rfl, by decide +kernel, by decide +kernel⟩
/-! ### _law_crowds -/
abbrev s_law_crowds : Stmt := top 41
def N_law_crowds : List Str := ["pot", "amount", "least", "places", "found", "wide", "place"]
def ir_law_crowds : List IS := [(.par2 3 4 (.call 14 [(.bor 0), (.lrg false none (.var 1)), (.var 1)]) (.lst [])), (.whl (.lend [3] (.ands [(.val (.cmp .ge (.blt .len [(.var 3)]) (.bin .mul (.lit (.int 2)) (.var 2)))), (.val (.cmp .gt (.call 7 [(.bor 0), (.lit (.int 4))]) (.lit (.int 0))))])) [(.asg (.name 5) (.lend [3] (.bin .add (.var 2) (.call 7 [(.bor 0), (.bin .add (.bin .sub (.blt .len [(.var 3)]) (.bin .mul (.lit (.int 2)) (.var 2))) (.lit (.int 1)))])))), (.expr (.mut 4 [] .append [(.lend [3] (.blt .tuple [(.blt .sorted [(.comp [6] (.val (.slc (.var 3) none (some (.var 5)))) (.name 6) [] (.blt .int [(.var 6)]))])]))])), (.asg (.name 3) (.lend [3] (.slc (.var 3) (some (.var 5)) none)))]), (.ret (.lend [3, 4] (.blt .tuple [(.bin .add (.var 4) (.ite (.val (.cmp .ne (.var 3) (.lst []))) (.lst [(.blt .tuple [(.blt .sorted [(.comp [6] (.val (.var 3)) (.name 6) [] (.blt .int [(.var 6)]))])])]) (.lst [])))])))]
def F_law_crowds : Fn := ⟨[.bor, .lent, .lent], runDef (tab R2) [.bor, .lent, .lent] (N_law_crowds).length ir_law_crowds⟩
def M_law_crowds : MC := { N := N_law_crowds, sc := defScope s_law_crowds, nm := nmL, nF := 2, fns := I2, blt := bltL, cel := none }
@[simp] theorem md_law_crowds : F_law_crowds.md = [.bor, .lent, .lent] := (rfl)
theorem wp_law_crowds {us : List W} {Q : W → VL.Env → Prop} {X : ExC} (h : (evSs (tab R2) [0] ir_law_crowds (roOf [.bor, .lent, .lent] us ++ [none, none, none, none]) (envOf [.bor, .lent, .lent] us ++ [none, none, none, none])).wp (fun _ env => onE (keepB [.bor, .lent, .lent] env) fun e => Q .non e) (fun _ _ => False) (fun _ _ => False) (fun w env => onE (keepB [.bor, .lent, .lent] env) fun e => Q w e) (fun c w env => onE (keepB [.bor, .lent, .lent] env) fun e => X c w e)) : (F_law_crowds.run us).wp Q X := runDef_wp h
@[simp] theorem tR2_14 : tab R2 14 = F_law_some := (rfl)
theorem chk_law_crowds : okSs M_law_crowds ir_law_crowds (defBody s_law_crowds) = true := by decide +kernel
theorem sc_law_crowds : FnScope N_law_crowds ["pot", "amount", "least"] (defScope s_law_crowds) := ⟨rfl, rfl, rfl, by decide +kernel, rfl, by decide +kernel, by decide +kernel⟩
def R3 : List Fn := [(gvF (.int 1000000)), (gvF (.int 200)), F_Line_loss, F_law_cells, F_law_crowd_cost, F_law_middles_of, F_law_pot, F_law_take, F_is_integer, F_loss_of, F_Line_init, F_Line_cuts, F_law_cut_costs, F_law_of, F_law_some, F_is_shown, F_is_within, F_Line_least, F_law_crowds, F_law_least, F_law_line_values, F_are_crowds, F_is_line_value]
def I3 : List FI := [.gv "MOST_VALUE", .gv "MOST_VALUES", .mt 0 2 2, .fn "_law_cells" 2 [], .fn "_law_crowd_cost" 1 [], .fn "_law_middles_of" 1 [], .fn "_law_pot" 2 [], .fn "_law_take" 2 [], .fn "is_integer" 1 [], .fn "loss_of" 3 [], .mk 0 "Line" 1 [], .mt 0 4 1, .fn "_law_cut_costs" 2 [], .fn "_law_of" 2 [], .fn "_law_some" 3 [], .fn "is_shown" 2 [], .fn "is_within" 3 [], .mt 0 3 1, .fn "_law_crowds" 3 [], .fn "_law_least" 2 [], .fn "_law_line_values" 2 [], .fn "are_crowds" 3 [], .fn "is_line_value" 1 []]
/-! ### check_values -/
abbrev s_check_values : Stmt := top 17
def N_check_values : List Str := ["values", "one"]
def ir_check_values : List IS := [(.ifs (.ors [(.dnot (.val (.isin (.var 0) .tuple))), (.val (.cmp .gt (.blt .len [(.var 0)]) (.call 1 []))), (.dnot (.val (.blt .all [(.comp [1] (.val (.var 0)) (.name 1) [] (.call 22 [(.var 1)]))])))]) [.bad] [])]
def F_check_values : Fn := ⟨[.lent], runDef (tab R3) [.lent] (N_check_values).length ir_check_values⟩
def M_check_values : MC := { N := N_check_values, sc := defScope s_check_values, nm := nmL, nF := 2, fns := I3, blt := bltL, cel := none }
@[simp] theorem md_check_values : F_check_values.md = [.lent] := (rfl)
theorem wp_check_values {us : List W} {Q : W → VL.Env → Prop} {X : ExC} (h : (evSs (tab R3) [] ir_check_values (roOf [.lent] us ++ [none]) (envOf [.lent] us ++ [none])).wp (fun _ env => onE (keepB [.lent] env) fun e => Q .non e) (fun _ _ => False) (fun _ _ => False) (fun w env => onE (keepB [.lent] env) fun e => Q w e) (fun c w env => onE (keepB [.lent] env) fun e => X c w e)) : (F_check_values.run us).wp Q X := runDef_wp h
@[simp] theorem tR3_1 : tab R3 1 = (gvF (.int 200)) := (rfl)
@[simp] theorem tR3_22 : tab R3 22 = F_is_line_value := (rfl)
theorem chk_check_values : okSs M_check_values ir_check_values (defBody s_check_values) = true := by decide +kernel
theorem sc_check_values : FnScope N_check_values ["values"] (defScope s_check_values) := ⟨rfl, rfl, rfl, by decide +kernel, rfl, by decide +kernel, by decide +kernel⟩
/-! ### least_loss -/
abbrev s_least_loss : Stmt := top 23
def N_least_loss : List Str := ["values", "size"]
def ir_least_loss : List IS := [(.ret (.meth 0 3 17 (.make 0 10 [(.var 0)]) [(.var 1)]))]
def F_least_loss : Fn := ⟨[.lent, .lent], runDef (tab R3) [.lent, .lent] (N_least_loss).length ir_least_loss⟩
def M_least_loss : MC := { N := N_least_loss, sc := defScope s_least_loss, nm := nmL, nF := 2, fns := I3, blt := bltL, cel := none }
@[simp] theorem md_least_loss : F_least_loss.md = [.lent, .lent] := (rfl)
theorem wp_least_loss {us : List W} {Q : W → VL.Env → Prop} {X : ExC} (h : (evSs (tab R3) [] ir_least_loss (roOf [.lent, .lent] us ++ []) (envOf [.lent, .lent] us ++ [])).wp (fun _ env => onE (keepB [.lent, .lent] env) fun e => Q .non e) (fun _ _ => False) (fun _ _ => False) (fun w env => onE (keepB [.lent, .lent] env) fun e => Q w e) (fun c w env => onE (keepB [.lent, .lent] env) fun e => X c w e)) : (F_least_loss.run us).wp Q X := runDef_wp h
@[simp] theorem tR3_10 : tab R3 10 = F_Line_init := (rfl)
@[simp] theorem tR3_17 : tab R3 17 = F_Line_least := (rfl)
theorem chk_least_loss : okSs M_least_loss ir_least_loss (defBody s_least_loss) = true := by decide +kernel
theorem sc_least_loss : FnScope N_least_loss ["values", "size"] (defScope s_least_loss) := ⟨rfl, rfl, rfl, by decide +kernel, rfl, by decide +kernel, by decide +kernel⟩
def R4 : List Fn := [(gvF (.int 1000000)), (gvF (.int 200)), F_Line_loss, F_law_cells, F_law_crowd_cost, F_law_middles_of, F_law_pot, F_law_take, F_is_integer, F_loss_of, F_Line_init, F_Line_cuts, F_law_cut_costs, F_law_of, F_law_some, F_is_shown, F_is_within, F_Line_least, F_law_crowds, F_law_least, F_law_line_values, F_are_crowds, F_is_line_value, F_check_values, F_least_loss]
def I4 : List FI := [.gv "MOST_VALUE", .gv "MOST_VALUES", .mt 0 2 2, .fn "_law_cells" 2 [], .fn "_law_crowd_cost" 1 [], .fn "_law_middles_of" 1 [], .fn "_law_pot" 2 [], .fn "_law_take" 2 [], .fn "is_integer" 1 [], .fn "loss_of" 3 [], .mk 0 "Line" 1 [], .mt 0 4 1, .fn "_law_cut_costs" 2 [], .fn "_law_of" 2 [], .fn "_law_some" 3 [], .fn "is_shown" 2 [], .fn "is_within" 3 [], .mt 0 3 1, .fn "_law_crowds" 3 [], .fn "_law_least" 2 [], .fn "_law_line_values" 2 [], .fn "are_crowds" 3 [], .fn "is_line_value" 1 [], .fn "check_values" 1 [], .fn "least_loss" 2 []]
/-! ### check_size -/
abbrev s_check_size : Stmt := top 18
def N_check_size : List Str := ["values", "size"]
def ir_check_size : List IS := [(.expr (.call 23 [(.var 0)])), (.ifs (.dnot (.val (.call 16 [(.var 1), (.lit (.int 1)), (.call 1 [])]))) [.bad] [])]
def F_check_size : Fn := ⟨[.lent, .lent], runDef (tab R4) [.lent, .lent] (N_check_size).length ir_check_size⟩
def M_check_size : MC := { N := N_check_size, sc := defScope s_check_size, nm := nmL, nF := 2, fns := I4, blt := bltL, cel := none }
@[simp] theorem md_check_size : F_check_size.md = [.lent, .lent] := (rfl)
theorem wp_check_size {us : List W} {Q : W → VL.Env → Prop} {X : ExC} (h : (evSs (tab R4) [] ir_check_size (roOf [.lent, .lent] us ++ []) (envOf [.lent, .lent] us ++ [])).wp (fun _ env => onE (keepB [.lent, .lent] env) fun e => Q .non e) (fun _ _ => False) (fun _ _ => False) (fun w env => onE (keepB [.lent, .lent] env) fun e => Q w e) (fun c w env => onE (keepB [.lent, .lent] env) fun e => X c w e)) : (F_check_size.run us).wp Q X := runDef_wp h
@[simp] theorem tR4_1 : tab R4 1 = (gvF (.int 200)) := (rfl)
@[simp] theorem tR4_16 : tab R4 16 = F_is_within := (rfl)
@[simp] theorem tR4_23 : tab R4 23 = F_check_values := (rfl)
theorem chk_check_size : okSs M_check_size ir_check_size (defBody s_check_size) = true := by decide +kernel
theorem sc_check_size : FnScope N_check_size ["values", "size"] (defScope s_check_size) := ⟨rfl, rfl, rfl, by decide +kernel, rfl, by decide +kernel, by decide +kernel⟩
/-! ### check_stretch -/
abbrev s_check_stretch : Stmt := top 19
def N_check_stretch : List Str := ["values", "begin", "end"]
def ir_check_stretch : List IS := [(.expr (.call 23 [(.var 0)])), (.ifs (.ors [(.dnot (.val (.call 16 [(.var 1), (.lit (.int 0)), (.bin .sub (.blt .len [(.var 0)]) (.lit (.int 1)))]))), (.dnot (.val (.call 16 [(.var 2), (.bin .add (.var 1) (.lit (.int 1))), (.blt .len [(.var 0)])])))]) [.bad] [])]
def F_check_stretch : Fn := ⟨[.lent, .lent, .lent], runDef (tab R4) [.lent, .lent, .lent] (N_check_stretch).length ir_check_stretch⟩
def M_check_stretch : MC := { N := N_check_stretch, sc := defScope s_check_stretch, nm := nmL, nF := 2, fns := I4, blt := bltL, cel := none }
@[simp] theorem md_check_stretch : F_check_stretch.md = [.lent, .lent, .lent] := (rfl)
theorem wp_check_stretch {us : List W} {Q : W → VL.Env → Prop} {X : ExC} (h : (evSs (tab R4) [] ir_check_stretch (roOf [.lent, .lent, .lent] us ++ []) (envOf [.lent, .lent, .lent] us ++ [])).wp (fun _ env => onE (keepB [.lent, .lent, .lent] env) fun e => Q .non e) (fun _ _ => False) (fun _ _ => False) (fun w env => onE (keepB [.lent, .lent, .lent] env) fun e => Q w e) (fun c w env => onE (keepB [.lent, .lent, .lent] env) fun e => X c w e)) : (F_check_stretch.run us).wp Q X := runDef_wp h
theorem chk_check_stretch : okSs M_check_stretch ir_check_stretch (defBody s_check_stretch) = true := by decide +kernel
theorem sc_check_stretch : FnScope N_check_stretch ["values", "begin", "end"] (defScope s_check_stretch) := ⟨rfl, rfl, rfl, by decide +kernel, rfl, by decide +kernel, by decide +kernel⟩
def R5 : List Fn := [(gvF (.int 1000000)), (gvF (.int 200)), F_Line_loss, F_law_cells, F_law_crowd_cost, F_law_middles_of, F_law_pot, F_law_take, F_is_integer, F_loss_of, F_Line_init, F_Line_cuts, F_law_cut_costs, F_law_of, F_law_some, F_is_shown, F_is_within, F_Line_least, F_law_crowds, F_law_least, F_law_line_values, F_are_crowds, F_is_line_value, F_check_values, F_least_loss, F_check_size, F_check_stretch]
def I5 : List FI := [.gv "MOST_VALUE", .gv "MOST_VALUES", .mt 0 2 2, .fn "_law_cells" 2 [], .fn "_law_crowd_cost" 1 [], .fn "_law_middles_of" 1 [], .fn "_law_pot" 2 [], .fn "_law_take" 2 [], .fn "is_integer" 1 [], .fn "loss_of" 3 [], .mk 0 "Line" 1 [], .mt 0 4 1, .fn "_law_cut_costs" 2 [], .fn "_law_of" 2 [], .fn "_law_some" 3 [], .fn "is_shown" 2 [], .fn "is_within" 3 [], .mt 0 3 1, .fn "_law_crowds" 3 [], .fn "_law_least" 2 [], .fn "_law_line_values" 2 [], .fn "are_crowds" 3 [], .fn "is_line_value" 1 [], .fn "check_values" 1 [], .fn "least_loss" 2 [], .fn "check_size" 2 [], .fn "check_stretch" 3 []]
/-! ### check_crowds -/
abbrev s_check_crowds : Stmt := top 24
def N_check_crowds : List Str := ["values", "size"]
def ir_check_crowds : List IS := [(.expr (.call 25 [(.var 0), (.var 1)])), (.ifs (.val (.chain .lt .lt (.lit (.int 0)) (.blt .len [(.var 0)]) (.var 1))) [.bad] [])]
def F_check_crowds : Fn := ⟨[.lent, .lent], runDef (tab R5) [.lent, .lent] (N_check_crowds).length ir_check_crowds⟩
def M_check_crowds : MC := { N := N_check_crowds, sc := defScope s_check_crowds, nm := nmL, nF := 2, fns := I5, blt := bltL, cel := none }
@[simp] theorem md_check_crowds : F_check_crowds.md = [.lent, .lent] := (rfl)
theorem wp_check_crowds {us : List W} {Q : W → VL.Env → Prop} {X : ExC} (h : (evSs (tab R5) [] ir_check_crowds (roOf [.lent, .lent] us ++ []) (envOf [.lent, .lent] us ++ [])).wp (fun _ env => onE (keepB [.lent, .lent] env) fun e => Q .non e) (fun _ _ => False) (fun _ _ => False) (fun w env => onE (keepB [.lent, .lent] env) fun e => Q w e) (fun c w env => onE (keepB [.lent, .lent] env) fun e => X c w e)) : (F_check_crowds.run us).wp Q X := runDef_wp h
@[simp] theorem tR5_25 : tab R5 25 = F_check_size := (rfl)
theorem chk_check_crowds : okSs M_check_crowds ir_check_crowds (defBody s_check_crowds) = true := by decide +kernel
theorem sc_check_crowds : FnScope N_check_crowds ["values", "size"] (defScope s_check_crowds) := ⟨rfl, rfl, rfl, by decide +kernel, rfl, by decide +kernel, by decide +kernel⟩
/-! ### stretch_loss -/
abbrev s_stretch_loss : Stmt := top 25
def N_stretch_loss : List Str := ["values", "begin", "end"]
def ir_stretch_loss : List IS := [(.expr (.call 26 [(.var 0), (.var 1), (.var 2)])), (.ret (.meth 0 2 2 (.make 0 10 [(.var 0)]) [(.var 1), (.var 2)]))]
def F_stretch_loss : Fn := ⟨[.lent, .lent, .lent], runDef (tab R5) [.lent, .lent, .lent] (N_stretch_loss).length ir_stretch_loss⟩
def M_stretch_loss : MC := { N := N_stretch_loss, sc := defScope s_stretch_loss, nm := nmL, nF := 2, fns := I5, blt := bltL, cel := none }
@[simp] theorem md_stretch_loss : F_stretch_loss.md = [.lent, .lent, .lent] := (rfl)
theorem wp_stretch_loss {us : List W} {Q : W → VL.Env → Prop} {X : ExC} (h : (evSs (tab R5) [] ir_stretch_loss (roOf [.lent, .lent, .lent] us ++ []) (envOf [.lent, .lent, .lent] us ++ [])).wp (fun _ env => onE (keepB [.lent, .lent, .lent] env) fun e => Q .non e) (fun _ _ => False) (fun _ _ => False) (fun w env => onE (keepB [.lent, .lent, .lent] env) fun e => Q w e) (fun c w env => onE (keepB [.lent, .lent, .lent] env) fun e => X c w e)) : (F_stretch_loss.run us).wp Q X := runDef_wp h
@[simp] theorem tR5_2 : tab R5 2 = F_Line_loss := (rfl)
@[simp] theorem tR5_10 : tab R5 10 = F_Line_init := (rfl)
@[simp] theorem tR5_26 : tab R5 26 = F_check_stretch := (rfl)
theorem chk_stretch_loss : okSs M_stretch_loss ir_stretch_loss (defBody s_stretch_loss) = true := by decide +kernel
theorem sc_stretch_loss : FnScope N_stretch_loss ["values", "begin", "end"] (defScope s_stretch_loss) := ⟨rfl, rfl, rfl, by decide +kernel, rfl, by decide +kernel, by decide +kernel⟩
/-! ### middles -/
abbrev s_middles : Stmt := top 26
def N_middles : List Str := ["values", "begin", "end", "some"]
def ir_middles : List IS := [(.expr (.call 26 [(.var 0), (.var 1), (.var 2)])), (.asg (.name 3) (.slc (.blt .sorted [(.var 0)]) (some (.var 1)) (some (.var 2)))), (.ret (.tup [(.lend [3] (.idx (.var 3) (.bin .fdiv (.bin .sub (.blt .len [(.var 3)]) (.lit (.int 1))) (.lit (.int 2))))), (.lend [3] (.idx (.var 3) (.bin .fdiv (.blt .len [(.var 3)]) (.lit (.int 2)))))]))]
def F_middles : Fn := ⟨[.lent, .lent, .lent], runDef (tab R5) [.lent, .lent, .lent] (N_middles).length ir_middles⟩
def M_middles : MC := { N := N_middles, sc := defScope s_middles, nm := nmL, nF := 2, fns := I5, blt := bltL, cel := none }
@[simp] theorem md_middles : F_middles.md = [.lent, .lent, .lent] := (rfl)
theorem wp_middles {us : List W} {Q : W → VL.Env → Prop} {X : ExC} (h : (evSs (tab R5) [] ir_middles (roOf [.lent, .lent, .lent] us ++ [none]) (envOf [.lent, .lent, .lent] us ++ [none])).wp (fun _ env => onE (keepB [.lent, .lent, .lent] env) fun e => Q .non e) (fun _ _ => False) (fun _ _ => False) (fun w env => onE (keepB [.lent, .lent, .lent] env) fun e => Q w e) (fun c w env => onE (keepB [.lent, .lent, .lent] env) fun e => X c w e)) : (F_middles.run us).wp Q X := runDef_wp h
theorem chk_middles : okSs M_middles ir_middles (defBody s_middles) = true := by decide +kernel
theorem sc_middles : FnScope N_middles ["values", "begin", "end"] (defScope s_middles) := ⟨rfl, rfl, rfl, by decide +kernel, rfl, by decide +kernel, by decide +kernel⟩
/-! ### line_loss -/
abbrev s_line_loss : Stmt := top 28
def N_line_loss : List Str := ["values", "size", "crowds", "shown"]
def ir_line_loss : List IS := [(.expr (.call 25 [(.var 0), (.var 1)])), (.ifs (.dnot (.val (.call 21 [(.blt .len [(.var 0)]), (.var 1), (.var 2)]))) [.bad] []), (.ifs (.dnot (.val (.call 15 [(.var 2), (.var 3)]))) [.bad] []), (.ret (.call 9 [(.var 0), (.var 2), (.var 3)]))]
def F_line_loss : Fn := ⟨[.lent, .lent, .lent, .lent], runDef (tab R5) [.lent, .lent, .lent, .lent] (N_line_loss).length ir_line_loss⟩
def M_line_loss : MC := { N := N_line_loss, sc := defScope s_line_loss, nm := nmL, nF := 2, fns := I5, blt := bltL, cel := none }
@[simp] theorem md_line_loss : F_line_loss.md = [.lent, .lent, .lent, .lent] := (rfl)
theorem wp_line_loss {us : List W} {Q : W → VL.Env → Prop} {X : ExC} (h : (evSs (tab R5) [] ir_line_loss (roOf [.lent, .lent, .lent, .lent] us ++ []) (envOf [.lent, .lent, .lent, .lent] us ++ [])).wp (fun _ env => onE (keepB [.lent, .lent, .lent, .lent] env) fun e => Q .non e) (fun _ _ => False) (fun _ _ => False) (fun w env => onE (keepB [.lent, .lent, .lent, .lent] env) fun e => Q w e) (fun c w env => onE (keepB [.lent, .lent, .lent, .lent] env) fun e => X c w e)) : (F_line_loss.run us).wp Q X := runDef_wp h
@[simp] theorem tR5_9 : tab R5 9 = F_loss_of := (rfl)
@[simp] theorem tR5_15 : tab R5 15 = F_is_shown := (rfl)
@[simp] theorem tR5_21 : tab R5 21 = F_are_crowds := (rfl)
theorem chk_line_loss : okSs M_line_loss ir_line_loss (defBody s_line_loss) = true := by decide +kernel
theorem sc_line_loss : FnScope N_line_loss ["values", "size", "crowds", "shown"] (defScope s_line_loss) := ⟨rfl, rfl, rfl, by decide +kernel, rfl, by decide +kernel, by decide +kernel⟩
def K_line_loss_shown_crowds_size_values : Fn := kwFn 4 [3, 2, 1, 0] F_line_loss
@[simp] theorem md_K_line_loss_shown_crowds_size_values : K_line_loss_shown_crowds_size_values.md = [.own, .own, .own, .own] := (rfl)
@[simp ↓] theorem wp_K_line_loss_shown_crowds_size_values {us : List W} {Q : W → VL.Env → Prop} {X : ExC} : (K_line_loss_shown_crowds_size_values.run us).wp Q X = (hasL Fl.isMut us = false ∧ (F_line_loss.run [us.getD 3 .non, us.getD 2 .non, us.getD 1 .non, us.getD 0 .non]).wp (fun w _ => Q w [none, none, none, none]) (fun c w _ => X c w [none, none, none, none])) := wp_kwFn
def K_middles_end_begin_values : Fn := kwFn 3 [2, 1, 0] F_middles
@[simp] theorem md_K_middles_end_begin_values : K_middles_end_begin_values.md = [.own, .own, .own] := (rfl)
@[simp ↓] theorem wp_K_middles_end_begin_values {us : List W} {Q : W → VL.Env → Prop} {X : ExC} : (K_middles_end_begin_values.run us).wp Q X = (hasL Fl.isMut us = false ∧ (F_middles.run [us.getD 2 .non, us.getD 1 .non, us.getD 0 .non]).wp (fun w _ => Q w [none, none, none]) (fun c w _ => X c w [none, none, none])) := wp_kwFn
def K_stretch_loss_end_begin_values : Fn := kwFn 3 [2, 1, 0] F_stretch_loss
@[simp] theorem md_K_stretch_loss_end_begin_values : K_stretch_loss_end_begin_values.md = [.own, .own, .own] := (rfl)
@[simp ↓] theorem wp_K_stretch_loss_end_begin_values {us : List W} {Q : W → VL.Env → Prop} {X : ExC} : (K_stretch_loss_end_begin_values.run us).wp Q X = (hasL Fl.isMut us = false ∧ (F_stretch_loss.run [us.getD 2 .non, us.getD 1 .non, us.getD 0 .non]).wp (fun w _ => Q w [none, none, none]) (fun c w _ => X c w [none, none, none])) := wp_kwFn
def R6 : List Fn := [(gvF (.int 1000000)), (gvF (.int 200)), F_Line_loss, F_law_cells, F_law_crowd_cost, F_law_middles_of, F_law_pot, F_law_take, F_is_integer, F_loss_of, F_Line_init, F_Line_cuts, F_law_cut_costs, F_law_of, F_law_some, F_is_shown, F_is_within, F_Line_least, F_law_crowds, F_law_least, F_law_line_values, F_are_crowds, F_is_line_value, F_check_values, F_least_loss, F_check_size, F_check_stretch, F_check_crowds, K_line_loss_shown_crowds_size_values, K_middles_end_begin_values, K_stretch_loss_end_begin_values]
def I6 : List FI := [.gv "MOST_VALUE", .gv "MOST_VALUES", .mt 0 2 2, .fn "_law_cells" 2 [], .fn "_law_crowd_cost" 1 [], .fn "_law_middles_of" 1 [], .fn "_law_pot" 2 [], .fn "_law_take" 2 [], .fn "is_integer" 1 [], .fn "loss_of" 3 [], .mk 0 "Line" 1 [], .mt 0 4 1, .fn "_law_cut_costs" 2 [], .fn "_law_of" 2 [], .fn "_law_some" 3 [], .fn "is_shown" 2 [], .fn "is_within" 3 [], .mt 0 3 1, .fn "_law_crowds" 3 [], .fn "_law_least" 2 [], .fn "_law_line_values" 2 [], .fn "are_crowds" 3 [], .fn "is_line_value" 1 [], .fn "check_values" 1 [], .fn "least_loss" 2 [], .fn "check_size" 2 [], .fn "check_stretch" 3 [], .fn "check_crowds" 2 [], .fn "line_loss" 0 ["shown", "crowds", "size", "values"], .fn "middles" 0 ["end", "begin", "values"], .fn "stretch_loss" 0 ["end", "begin", "values"]]
/-! ### one_more -/
abbrev s_one_more : Stmt := top 29
def N_one_more : List Str := ["values", "size", "value", "more"]
def ir_one_more : List IS := [(.expr (.call 25 [(.var 0), (.var 1)])), (.ifs (.dnot (.val (.call 22 [(.var 2)]))) [.bad] []), (.ifs (.val (.cmp .eq (.blt .len [(.var 0)]) (.call 1 []))) [.bad] []), (.expr (.call 27 [(.var 0), (.var 1)])), (.asg (.name 3) (.call 24 [(.disp true [true, false] [(.var 0), (.var 2)]), (.var 1)])), (.ifs (.val (.cmp .isn (.var 3) (.lit .non))) [.bad] []), (.ret (.bin .sub (.var 3) (.call 24 [(.var 0), (.var 1)])))]
def F_one_more : Fn := ⟨[.lent, .lent, .lent], runDef (tab R6) [.lent, .lent, .lent] (N_one_more).length ir_one_more⟩
def M_one_more : MC := { N := N_one_more, sc := defScope s_one_more, nm := nmL, nF := 2, fns := I6, blt := bltL, cel := none }
@[simp] theorem md_one_more : F_one_more.md = [.lent, .lent, .lent] := (rfl)
theorem wp_one_more {us : List W} {Q : W → VL.Env → Prop} {X : ExC} (h : (evSs (tab R6) [] ir_one_more (roOf [.lent, .lent, .lent] us ++ [none]) (envOf [.lent, .lent, .lent] us ++ [none])).wp (fun _ env => onE (keepB [.lent, .lent, .lent] env) fun e => Q .non e) (fun _ _ => False) (fun _ _ => False) (fun w env => onE (keepB [.lent, .lent, .lent] env) fun e => Q w e) (fun c w env => onE (keepB [.lent, .lent, .lent] env) fun e => X c w e)) : (F_one_more.run us).wp Q X := runDef_wp h
@[simp] theorem tR6_1 : tab R6 1 = (gvF (.int 200)) := (rfl)
@[simp] theorem tR6_22 : tab R6 22 = F_is_line_value := (rfl)
@[simp] theorem tR6_24 : tab R6 24 = F_least_loss := (rfl)
@[simp] theorem tR6_25 : tab R6 25 = F_check_size := (rfl)
@[simp] theorem tR6_27 : tab R6 27 = F_check_crowds := (rfl)
theorem chk_one_more : okSs M_one_more ir_one_more (defBody s_one_more) = true := by decide +kernel
theorem sc_one_more : FnScope N_one_more ["values", "size", "value"] (defScope s_one_more) := ⟨rfl, rfl, rfl, by decide +kernel, rfl, by decide +kernel, by decide +kernel⟩
def K_one_more_value_size_values : Fn := kwFn 3 [2, 1, 0] F_one_more
@[simp] theorem md_K_one_more_value_size_values : K_one_more_value_size_values.md = [.own, .own, .own] := (rfl)
@[simp ↓] theorem wp_K_one_more_value_size_values {us : List W} {Q : W → VL.Env → Prop} {X : ExC} : (K_one_more_value_size_values.run us).wp Q X = (hasL Fl.isMut us = false ∧ (F_one_more.run [us.getD 2 .non, us.getD 1 .non, us.getD 0 .non]).wp (fun w _ => Q w [none, none, none]) (fun c w _ => X c w [none, none, none])) := wp_kwFn
def R7 : List Fn := [(gvF (.int 1000000)), (gvF (.int 200)), F_Line_loss, F_law_cells, F_law_crowd_cost, F_law_middles_of, F_law_pot, F_law_take, F_is_integer, F_loss_of, F_Line_init, F_Line_cuts, F_law_cut_costs, F_law_of, F_law_some, F_is_shown, F_is_within, F_Line_least, F_law_crowds, F_law_least, F_law_line_values, F_are_crowds, F_is_line_value, F_check_values, F_least_loss, F_check_size, F_check_stretch, F_check_crowds, K_line_loss_shown_crowds_size_values, K_middles_end_begin_values, K_stretch_loss_end_begin_values, K_one_more_value_size_values]
def I7 : List FI := [.gv "MOST_VALUE", .gv "MOST_VALUES", .mt 0 2 2, .fn "_law_cells" 2 [], .fn "_law_crowd_cost" 1 [], .fn "_law_middles_of" 1 [], .fn "_law_pot" 2 [], .fn "_law_take" 2 [], .fn "is_integer" 1 [], .fn "loss_of" 3 [], .mk 0 "Line" 1 [], .mt 0 4 1, .fn "_law_cut_costs" 2 [], .fn "_law_of" 2 [], .fn "_law_some" 3 [], .fn "is_shown" 2 [], .fn "is_within" 3 [], .mt 0 3 1, .fn "_law_crowds" 3 [], .fn "_law_least" 2 [], .fn "_law_line_values" 2 [], .fn "are_crowds" 3 [], .fn "is_line_value" 1 [], .fn "check_values" 1 [], .fn "least_loss" 2 [], .fn "check_size" 2 [], .fn "check_stretch" 3 [], .fn "check_crowds" 2 [], .fn "line_loss" 0 ["shown", "crowds", "size", "values"], .fn "middles" 0 ["end", "begin", "values"], .fn "stretch_loss" 0 ["end", "begin", "values"], .fn "one_more" 0 ["value", "size", "values"]]
/-! ### _law_right -/
abbrev s_law_right : Stmt := top 42
def N_law_right : List Str := ["pot", "values", "row", "lap", "begin", "end", "low", "high", "best", "least", "parts", "shown", "due", "crowd", "one", "more", "place"]
def ir_law_right : List IS := [(.asg (.name 1) (.call 20 [(.bor 0), (.lit (.int 20))])), (.asg (.name 2) (.blt .sorted [(.var 1)])), (.frz 2 []), (.fors (.name 3) (.rng1 (.lit (.int 4))) [(.ifs (.val (.cmp .eq (.var 2) (.lst []))) [.brk] []), (.asg (.name 4) (.call 7 [(.bor 0), (.blt .len [(.var 2)])])), (.asg (.name 5) (.blt .int [(.bin .add (.bin .add (.var 4) (.lit (.int 1))) (.call 7 [(.bor 0), (.bin .sub (.blt .len [(.var 2)]) (.var 4))]))])), (.asg (.tup [(.name 6), (.name 7), (.name 8)]) (.call 5 [(.slc (.var 2) (some (.var 4)) (some (.var 5)))])), (.ifs (.val (.cmp .ne (.blt .repr [(.call 30 [(.var 5), (.var 4), (.var 1)])]) (.blt .repr [(.var 8)]))) [(.ret (.lit (.bl false)))] []), (.ifs (.val (.cmp .ne (.blt .repr [(.call 29 [(.var 5), (.var 4), (.var 1)])]) (.blt .repr [(.tup [(.var 6), (.var 7)])]))) [(.ret (.lit (.bl false)))] [])]), (.asg (.name 9) (.blt .int [(.bin .add (.lit (.int 1)) (.call 7 [(.bor 0), (.lit (.int 4))]))])), (.ifs (.ors [(.val (.cmp .eq (.blt .len [(.var 1)]) (.lit (.int 0)))), (.val (.cmp .ge (.blt .len [(.var 1)]) (.var 9)))]) [(.asg (.name 10) (.call 18 [(.bor 0), (.blt .len [(.var 1)]), (.var 9)])), (.asg (.name 11) (.blt .tuple [(.comp [13] (.val (.var 10)) (.name 13) [] (.blt .int [(.bin .add (.call 13 [(.bor 0), (.bin .add (.var 2) (.lst [(.lit (.int 0))]))]) (.call 7 [(.bor 0), (.lit (.int 4))]))]))])), (.asg (.name 12) (.lit (.int 0))), (.fors (.tup [(.name 13), (.name 14)]) (.zip (.var 10) (.var 11)) [(.asg (.name 12) (.bin .add (.var 12) (.blt .sum [(.comp [16] (.val (.var 13)) (.name 16) [] (.blt .abs [(.bin .sub (.idx (.var 1) (.var 16)) (.var 14))]))])))]), (.ifs (.val (.cmp .ne (.blt .repr [(.call 28 [(.var 11), (.var 10), (.var 9), (.var 1)])]) (.blt .repr [(.blt .int [(.var 12)])]))) [(.ret (.lit (.bl false)))] []), (.asg (.name 15) (.blt .int [(.blt .max [(.neg (.bin .pow (.lit (.int 10)) (.lit (.int 6)))), (.blt .min [(.bin .pow (.lit (.int 10)) (.lit (.int 6))), (.bin .sub (.bin .add (.call 13 [(.bor 0), (.bin .add (.var 2) (.lst [(.lit (.int 0))]))]) (.call 7 [(.bor 0), (.lit (.int 9))])) (.lit (.int 4)))])])])), (.ifs (.val (.cmp .inn2 (.call 19 [(.bin .add (.var 1) (.tup [(.var 15)])), (.var 9)]) (.lit .non))) [(.asg (.name 12) (.bin .sub (.call 19 [(.bin .add (.var 1) (.tup [(.var 15)])), (.var 9)]) (.call 19 [(.var 1), (.var 9)]))), (.ifs (.val (.cmp .ne (.blt .repr [(.call 31 [(.var 15), (.var 9), (.var 1)])]) (.blt .repr [(.blt .int [(.var 12)])]))) [(.ret (.lit (.bl false)))] [])] [])] []), (.ret (.lit (.bl true)))]
def F_law_right : Fn := ⟨[.bor], runDef (tab R7) [.bor] (N_law_right).length ir_law_right⟩
def M_law_right : MC := { N := N_law_right, sc := defScope s_law_right, nm := nmL, nF := 2, fns := I7, blt := bltL, cel := none }
@[simp] theorem md_law_right : F_law_right.md = [.bor] := (rfl)
theorem wp_law_right {us : List W} {Q : W → VL.Env → Prop} {X : ExC} (h : (evSs (tab R7) [0] ir_law_right (roOf [.bor] us ++ [none, none, none, none, none, none, none, none, none, none, none, none, none, none, none, none]) (envOf [.bor] us ++ [none, none, none, none, none, none, none, none, none, none, none, none, none, none, none, none])).wp (fun _ env => onE (keepB [.bor] env) fun e => Q .non e) (fun _ _ => False) (fun _ _ => False) (fun w env => onE (keepB [.bor] env) fun e => Q w e) (fun c w env => onE (keepB [.bor] env) fun e => X c w e)) : (F_law_right.run us).wp Q X := runDef_wp h
@[simp] theorem tR7_5 : tab R7 5 = F_law_middles_of := (rfl)
@[simp] theorem tR7_7 : tab R7 7 = F_law_take := (rfl)
@[simp] theorem tR7_13 : tab R7 13 = F_law_of := (rfl)
@[simp] theorem tR7_18 : tab R7 18 = F_law_crowds := (rfl)
@[simp] theorem tR7_19 : tab R7 19 = F_law_least := (rfl)
@[simp] theorem tR7_20 : tab R7 20 = F_law_line_values := (rfl)
@[simp] theorem tR7_28 : tab R7 28 = K_line_loss_shown_crowds_size_values := (rfl)
@[simp] theorem tR7_29 : tab R7 29 = K_middles_end_begin_values := (rfl)
@[simp] theorem tR7_30 : tab R7 30 = K_stretch_loss_end_begin_values := (rfl)
@[simp] theorem tR7_31 : tab R7 31 = K_one_more_value_size_values := (rfl)
theorem chk_law_right : okSs M_law_right ir_law_right (defBody s_law_right) = true := by decide +kernel
theorem sc_law_right : FnScope N_law_right ["pot"] (defScope s_law_right) := ⟨rfl, rfl, rfl, by decide +kernel, rfl, by decide +kernel, by decide +kernel⟩
def R8 : List Fn := [(gvF (.int 1000000)), (gvF (.int 200)), F_Line_loss, F_law_cells, F_law_crowd_cost, F_law_middles_of, F_law_pot, F_law_take, F_is_integer, F_loss_of, F_Line_init, F_Line_cuts, F_law_cut_costs, F_law_of, F_law_some, F_is_shown, F_is_within, F_Line_least, F_law_crowds, F_law_least, F_law_line_values, F_are_crowds, F_is_line_value, F_check_values, F_least_loss, F_check_size, F_check_stretch, F_check_crowds, K_line_loss_shown_crowds_size_values, K_middles_end_begin_values, K_stretch_loss_end_begin_values, K_one_more_value_size_values, F_law_right]
def I8 : List FI := [.gv "MOST_VALUE", .gv "MOST_VALUES", .mt 0 2 2, .fn "_law_cells" 2 [], .fn "_law_crowd_cost" 1 [], .fn "_law_middles_of" 1 [], .fn "_law_pot" 2 [], .fn "_law_take" 2 [], .fn "is_integer" 1 [], .fn "loss_of" 3 [], .mk 0 "Line" 1 [], .mt 0 4 1, .fn "_law_cut_costs" 2 [], .fn "_law_of" 2 [], .fn "_law_some" 3 [], .fn "is_shown" 2 [], .fn "is_within" 3 [], .mt 0 3 1, .fn "_law_crowds" 3 [], .fn "_law_least" 2 [], .fn "_law_line_values" 2 [], .fn "are_crowds" 3 [], .fn "is_line_value" 1 [], .fn "check_values" 1 [], .fn "least_loss" 2 [], .fn "check_size" 2 [], .fn "check_stretch" 3 [], .fn "check_crowds" 2 [], .fn "line_loss" 0 ["shown", "crowds", "size", "values"], .fn "middles" 0 ["end", "begin", "values"], .fn "stretch_loss" 0 ["end", "begin", "values"], .fn "one_more" 0 ["value", "size", "values"], .fn "_law_right" 1 []]
/-! ### law -/
abbrev s_law : Stmt := top 43
def N_law : List Str := ["script", "place", "pot", "lap"]
def ir_law : List IS := [(.fors (.name 1) (.val (.call 3 [(.var 0), (.lit (.int 2))])) [(.asg (.name 2) (.call 6 [(.var 0), (.var 1)])), (.ifs (.dnot (.val (.blt .all [(.comp [3] (.rng1 (.lit (.int 3))) (.name 3) [] (.call 32 [(.bor 2)]))]))) [(.ret (.lit (.bl false)))] [])]), (.ret (.lit (.bl true)))]
def F_law : Fn := ⟨[.own], runDef (tab R8) [.own] (N_law).length ir_law⟩
def M_law : MC := { N := N_law, sc := defScope s_law, nm := nmL, nF := 2, fns := I8, blt := bltL, cel := none }
@[simp] theorem md_law : F_law.md = [.own] := (rfl)
theorem wp_law {us : List W} {Q : W → VL.Env → Prop} {X : ExC} (h : (evSs (tab R8) [] ir_law (roOf [.own] us ++ [none, none, none]) (envOf [.own] us ++ [none, none, none])).wp (fun _ env => onE (keepB [.own] env) fun e => Q .non e) (fun _ _ => False) (fun _ _ => False) (fun w env => onE (keepB [.own] env) fun e => Q w e) (fun c w env => onE (keepB [.own] env) fun e => X c w e)) : (F_law.run us).wp Q X := runDef_wp h
@[simp] theorem tR8_3 : tab R8 3 = F_law_cells := (rfl)
@[simp] theorem tR8_6 : tab R8 6 = F_law_pot := (rfl)
@[simp] theorem tR8_32 : tab R8 32 = F_law_right := (rfl)
theorem chk_law : okSs M_law ir_law (defBody s_law) = true := by decide +kernel
theorem sc_law : FnScope N_law ["script"] (defScope s_law) := ⟨rfl, rfl, rfl, by decide +kernel, rfl, by decide +kernel, by decide +kernel⟩
/-! ### what the top has written -/
section
variable {P : Program} {w : World} {K : PySem.W.Frag} {h : Heap} {mg : Str → Option Value} {fa : Addr}
theorem all_mk {C0 : Addr} {oc0 kV0 dc0 pm0 cd0 ct0 : Value} {od0 an0 : Option Addr} {sl0 : Array (Option Value)} {f0 : Addr} {oc1 kV1 dc1 pm1 cd1 ct1 : Value} {od1 an1 : Option Addr} {sl1 : Array (Option Value)} {f1 : Addr} {oc2 kV2 dc2 pm2 cd2 ct2 : Value} {od2 an2 : Option Addr} {sl2 : Array (Option Value)} {f2 : Addr} {oc3 kV3 dc3 pm3 cd3 ct3 : Value} {od3 an3 : Option Addr} {sl3 : Array (Option Value)} {f3 : Addr} {oc4 kV4 dc4 pm4 cd4 ct4 : Value} {od4 an4 : Option Addr} {sl4 : Array (Option Value)} {f4 : Addr} {oc5 kV5 dc5 pm5 cd5 ct5 : Value} {od5 an5 : Option Addr} {sl5 : Array (Option Value)} {f5 : Addr} {oc6 kV6 dc6 pm6 cd6 ct6 : Value} {od6 an6 : Option Addr} {sl6 : Array (Option Value)} {f6 : Addr} {oc7 kV7 dc7 pm7 cd7 ct7 : Value} {od7 an7 : Option Addr} {sl7 : Array (Option Value)} {f7 : Addr} {oc8 kV8 dc8 pm8 cd8 ct8 : Value} {od8 an8 : Option Addr} {sl8 : Array (Option Value)} {f8 : Addr} {oc9 kV9 dc9 pm9 cd9 ct9 : Value} {od9 an9 : Option Addr} {sl9 : Array (Option Value)} {f9 : Addr} {oc10 kV10 dc10 pm10 cd10 ct10 : Value} {od10 an10 : Option Addr} {sl10 : Array (Option Value)} {f10 : Addr} {oc11 kV11 dc11 pm11 cd11 ct11 : Value} {od11 an11 : Option Addr} {sl11 : Array (Option Value)} {f11 : Addr} {oc12 kV12 dc12 pm12 cd12 ct12 : Value} {od12 an12 : Option Addr} {sl12 : Array (Option Value)} {f12 : Addr} {oc13 kV13 dc13 pm13 cd13 ct13 : Value} {od13 an13 : Option Addr} {sl13 : Array (Option Value)} {f13 : Addr} {oc14 kV14 dc14 pm14 cd14 ct14 : Value} {od14 an14 : Option Addr} {sl14 : Array (Option Value)} {f14 : Addr} {oc15 kV15 dc15 pm15 cd15 ct15 : Value} {od15 an15 : Option Addr} {sl15 : Array (Option Value)} {f15 : Addr} {oc16 kV16 dc16 pm16 cd16 ct16 : Value} {od16 an16 : Option Addr} {sl16 : Array (Option Value)} {f16 : Addr} {oc17 kV17 dc17 pm17 cd17 ct17 : Value} {od17 an17 : Option Addr} {sl17 : Array (Option Value)} {f17 : Addr} {oc18 kV18 dc18 pm18 cd18 ct18 : Value} {od18 an18 : Option Addr} {sl18 : Array (Option Value)} {f18 : Addr} {oc19 kV19 dc19 pm19 cd19 ct19 : Value} {od19 an19 : Option Addr} {sl19 : Array (Option Value)} {f19 : Addr} {oc20 kV20 dc20 pm20 cd20 ct20 : Value} {od20 an20 : Option Addr} {sl20 : Array (Option Value)} {f20 : Addr} {oc21 kV21 dc21 pm21 cd21 ct21 : Value} {od21 an21 : Option Addr} {sl21 : Array (Option Value)} {f21 : Addr} {oc22 kV22 dc22 pm22 cd22 ct22 : Value} {od22 an22 : Option Addr} {sl22 : Array (Option Value)} {f22 : Addr} {oc23 kV23 dc23 pm23 cd23 ct23 : Value} {od23 an23 : Option Addr} {sl23 : Array (Option Value)} {f23 : Addr} {oc24 kV24 dc24 pm24 cd24 ct24 : Value} {od24 an24 : Option Addr} {sl24 : Array (Option Value)} {f24 : Addr} {oc25 kV25 dc25 pm25 cd25 ct25 : Value} {od25 an25 : Option Addr} {sl25 : Array (Option Value)} {f25 : Addr} {oc26 kV26 dc26 pm26 cd26 ct26 : Value} {od26 an26 : Option Addr} {sl26 : Array (Option Value)} {f26 : Addr} {oc27 kV27 dc27 pm27 cd27 ct27 : Value} {od27 an27 : Option Addr} {sl27 : Array (Option Value)} {f27 : Addr} {oc28 kV28 dc28 pm28 cd28 ct28 : Value} {od28 an28 : Option Addr} {sl28 : Array (Option Value)} {f28 : Addr} {oc29 kV29 dc29 pm29 cd29 ct29 : Value} {od29 an29 : Option Addr} {sl29 : Array (Option Value)} {f29 : Addr} {oc30 kV30 dc30 pm30 cd30 ct30 : Value} {od30 an30 : Option Addr} {sl30 : Array (Option Value)} {f30 : Addr} {oc31 kV31 dc31 pm31 cd31 ct31 : Value} {od31 an31 : Option Addr} {sl31 : Array (Option Value)} {f31 : Addr} {t0 : Tok} {t1 : Tok} (plain : ∀ ns : List Int, ns.length ≤ 63 → ∃ bs, F_law.run [.lst .frz (ns.map W.int)] = .ok (.bl true) bs) (X : K.In h) (G : h.Ns mainGlobals mg) (hfa : mg "law" = some (.ref fa))
    (aC0 : PySem.W.nsIn K mainGlobals "Line" = some (some (.ref C0)))
    (pg0 : PySem.W.plainGet K C0 Str.empty = true)
    (hd0 : PySem.W.hasDictIn K C0 = true)
    (po0 : PySem.W.plainOver K C0 = true)
    (sa0 : PySem.W.findIn K (.ref C0) "__setattr__" = some (some (.builtin "object.__setattr__")))
    (mk0 : PySem.W.makesIn K C0 = true)
    (kc0 : PySem.W.keepIn K (.ref C0) = true)
    (n0_0 : PySem.W.findIn K (.ref C0) "own_values" = some none)
    (n0_1 : PySem.W.findIn K (.ref C0) "own_sums" = some none)
    (a0 : PySem.W.nsIn K mainGlobals "is_integer" = some (some (.ref f0)))
    (l0 : K.lookup f0 = some ⟨oc0, od0, .func (PySem.W.fnOf "is_integer" "is_integer" (defArgs s_is_integer) (defBody s_is_integer) (defScope s_is_integer) .none kV0 dc0 pm0 an0 cd0 ct0), sl0⟩)
    (c0 : PySem.W.codeIn K cd0 "is_integer" = true)
    (k0 : PySem.W.keepIn K (.ref f0) = true)
    (a1 : PySem.W.findIn K (.ref C0) "__init__" = some (some (.ref f1)))
    (i1 : PySem.W.isFn K (.ref f1) = true)
    (l1 : K.lookup f1 = some ⟨oc1, od1, .func (PySem.W.fnOf "__init__" "Line.__init__" (defArgs s_Line_init) (defBody s_Line_init) (defScope s_Line_init) .none kV1 dc1 pm1 an1 cd1 ct1), sl1⟩)
    (c1 : PySem.W.codeIn K cd1 "Line.__init__" = true)
    (k1 : PySem.W.keepIn K (.ref f1) = true)
    (a2 : PySem.W.findIn K (.ref C0) "loss" = some (some (.ref f2)))
    (i2 : PySem.W.isFn K (.ref f2) = true)
    (l2 : K.lookup f2 = some ⟨oc2, od2, .func (PySem.W.fnOf "loss" "Line.loss" (defArgs s_Line_loss) (defBody s_Line_loss) (defScope s_Line_loss) .none kV2 dc2 pm2 an2 cd2 ct2), sl2⟩)
    (c2 : PySem.W.codeIn K cd2 "Line.loss" = true)
    (k2 : PySem.W.keepIn K (.ref f2) = true)
    (a3 : PySem.W.nsIn K mainGlobals "loss_of" = some (some (.ref f3)))
    (l3 : K.lookup f3 = some ⟨oc3, od3, .func (PySem.W.fnOf "loss_of" "loss_of" (defArgs s_loss_of) (defBody s_loss_of) (defScope s_loss_of) .none kV3 dc3 pm3 an3 cd3 ct3), sl3⟩)
    (c3 : PySem.W.codeIn K cd3 "loss_of" = true)
    (k3 : PySem.W.keepIn K (.ref f3) = true)
    (a4 : PySem.W.nsIn K mainGlobals "_law_pot" = some (some (.ref f4)))
    (l4 : K.lookup f4 = some ⟨oc4, od4, .func (PySem.W.fnOf "_law_pot" "_law_pot" (defArgs s_law_pot) (defBody s_law_pot) (defScope s_law_pot) .none kV4 dc4 pm4 an4 cd4 ct4), sl4⟩)
    (c4 : PySem.W.codeIn K cd4 "_law_pot" = true)
    (k4 : PySem.W.keepIn K (.ref f4) = true)
    (a5 : PySem.W.nsIn K mainGlobals "_law_take" = some (some (.ref f5)))
    (l5 : K.lookup f5 = some ⟨oc5, od5, .func (PySem.W.fnOf "_law_take" "_law_take" (defArgs s_law_take) (defBody s_law_take) (defScope s_law_take) .none kV5 dc5 pm5 an5 cd5 ct5), sl5⟩)
    (c5 : PySem.W.codeIn K cd5 "_law_take" = true)
    (k5 : PySem.W.keepIn K (.ref f5) = true)
    (a6 : PySem.W.nsIn K mainGlobals "_law_cells" = some (some (.ref f6)))
    (l6 : K.lookup f6 = some ⟨oc6, od6, .func (PySem.W.fnOf "_law_cells" "_law_cells" (defArgs s_law_cells) (defBody s_law_cells) (defScope s_law_cells) .none kV6 dc6 pm6 an6 cd6 ct6), sl6⟩)
    (c6 : PySem.W.codeIn K cd6 "_law_cells" = true)
    (k6 : PySem.W.keepIn K (.ref f6) = true)
    (a7 : PySem.W.nsIn K mainGlobals "_law_crowd_cost" = some (some (.ref f7)))
    (l7 : K.lookup f7 = some ⟨oc7, od7, .func (PySem.W.fnOf "_law_crowd_cost" "_law_crowd_cost" (defArgs s_law_crowd_cost) (defBody s_law_crowd_cost) (defScope s_law_crowd_cost) .none kV7 dc7 pm7 an7 cd7 ct7), sl7⟩)
    (c7 : PySem.W.codeIn K cd7 "_law_crowd_cost" = true)
    (k7 : PySem.W.keepIn K (.ref f7) = true)
    (a8 : PySem.W.nsIn K mainGlobals "_law_middles_of" = some (some (.ref f8)))
    (l8 : K.lookup f8 = some ⟨oc8, od8, .func (PySem.W.fnOf "_law_middles_of" "_law_middles_of" (defArgs s_law_middles_of) (defBody s_law_middles_of) (defScope s_law_middles_of) .none kV8 dc8 pm8 an8 cd8 ct8), sl8⟩)
    (c8 : PySem.W.codeIn K cd8 "_law_middles_of" = true)
    (k8 : PySem.W.keepIn K (.ref f8) = true)
    (a9 : PySem.W.nsIn K mainGlobals "is_within" = some (some (.ref f9)))
    (l9 : K.lookup f9 = some ⟨oc9, od9, .func (PySem.W.fnOf "is_within" "is_within" (defArgs s_is_within) (defBody s_is_within) (defScope s_is_within) .none kV9 dc9 pm9 an9 cd9 ct9), sl9⟩)
    (c9 : PySem.W.codeIn K cd9 "is_within" = true)
    (k9 : PySem.W.keepIn K (.ref f9) = true)
    (a10 : PySem.W.nsIn K mainGlobals "is_shown" = some (some (.ref f10)))
    (l10 : K.lookup f10 = some ⟨oc10, od10, .func (PySem.W.fnOf "is_shown" "is_shown" (defArgs s_is_shown) (defBody s_is_shown) (defScope s_is_shown) .none kV10 dc10 pm10 an10 cd10 ct10), sl10⟩)
    (c10 : PySem.W.codeIn K cd10 "is_shown" = true)
    (k10 : PySem.W.keepIn K (.ref f10) = true)
    (a11 : PySem.W.findIn K (.ref C0) "cuts" = some (some (.ref f11)))
    (i11 : PySem.W.isFn K (.ref f11) = true)
    (l11 : K.lookup f11 = some ⟨oc11, od11, .func (PySem.W.fnOf "cuts" "Line.cuts" (defArgs s_Line_cuts) (defBody s_Line_cuts) (defScope s_Line_cuts) .none kV11 dc11 pm11 an11 cd11 ct11), sl11⟩)
    (c11 : PySem.W.codeIn K cd11 "Line.cuts" = true)
    (k11 : PySem.W.keepIn K (.ref f11) = true)
    (a12 : PySem.W.nsIn K mainGlobals "_law_of" = some (some (.ref f12)))
    (l12 : K.lookup f12 = some ⟨oc12, od12, .func (PySem.W.fnOf "_law_of" "_law_of" (defArgs s_law_of) (defBody s_law_of) (defScope s_law_of) .none kV12 dc12 pm12 an12 cd12 ct12), sl12⟩)
    (c12 : PySem.W.codeIn K cd12 "_law_of" = true)
    (k12 : PySem.W.keepIn K (.ref f12) = true)
    (a13 : PySem.W.nsIn K mainGlobals "_law_some" = some (some (.ref f13)))
    (l13 : K.lookup f13 = some ⟨oc13, od13, .func (PySem.W.fnOf "_law_some" "_law_some" (defArgs s_law_some) (defBody s_law_some) (defScope s_law_some) .none kV13 dc13 pm13 an13 cd13 ct13), sl13⟩)
    (c13 : PySem.W.codeIn K cd13 "_law_some" = true)
    (k13 : PySem.W.keepIn K (.ref f13) = true)
    (a14 : PySem.W.nsIn K mainGlobals "_law_cut_costs" = some (some (.ref f14)))
    (l14 : K.lookup f14 = some ⟨oc14, od14, .func (PySem.W.fnOf "_law_cut_costs" "_law_cut_costs" (defArgs s_law_cut_costs) (defBody s_law_cut_costs) (defScope s_law_cut_costs) .none kV14 dc14 pm14 an14 cd14 ct14), sl14⟩)
    (c14 : PySem.W.codeIn K cd14 "_law_cut_costs" = true)
    (k14 : PySem.W.keepIn K (.ref f14) = true)
    (a15 : PySem.W.nsIn K mainGlobals "is_line_value" = some (some (.ref f15)))
    (l15 : K.lookup f15 = some ⟨oc15, od15, .func (PySem.W.fnOf "is_line_value" "is_line_value" (defArgs s_is_line_value) (defBody s_is_line_value) (defScope s_is_line_value) .none kV15 dc15 pm15 an15 cd15 ct15), sl15⟩)
    (c15 : PySem.W.codeIn K cd15 "is_line_value" = true)
    (k15 : PySem.W.keepIn K (.ref f15) = true)
    (a16 : PySem.W.nsIn K mainGlobals "are_crowds" = some (some (.ref f16)))
    (l16 : K.lookup f16 = some ⟨oc16, od16, .func (PySem.W.fnOf "are_crowds" "are_crowds" (defArgs s_are_crowds) (defBody s_are_crowds) (defScope s_are_crowds) .none kV16 dc16 pm16 an16 cd16 ct16), sl16⟩)
    (c16 : PySem.W.codeIn K cd16 "are_crowds" = true)
    (k16 : PySem.W.keepIn K (.ref f16) = true)
    (a17 : PySem.W.findIn K (.ref C0) "least" = some (some (.ref f17)))
    (i17 : PySem.W.isFn K (.ref f17) = true)
    (l17 : K.lookup f17 = some ⟨oc17, od17, .func (PySem.W.fnOf "least" "Line.least" (defArgs s_Line_least) (defBody s_Line_least) (defScope s_Line_least) .none kV17 dc17 pm17 an17 cd17 ct17), sl17⟩)
    (c17 : PySem.W.codeIn K cd17 "Line.least" = true)
    (k17 : PySem.W.keepIn K (.ref f17) = true)
    (a18 : PySem.W.nsIn K mainGlobals "_law_line_values" = some (some (.ref f18)))
    (l18 : K.lookup f18 = some ⟨oc18, od18, .func (PySem.W.fnOf "_law_line_values" "_law_line_values" (defArgs s_law_line_values) (defBody s_law_line_values) (defScope s_law_line_values) .none kV18 dc18 pm18 an18 cd18 ct18), sl18⟩)
    (c18 : PySem.W.codeIn K cd18 "_law_line_values" = true)
    (k18 : PySem.W.keepIn K (.ref f18) = true)
    (a19 : PySem.W.nsIn K mainGlobals "_law_least" = some (some (.ref f19)))
    (l19 : K.lookup f19 = some ⟨oc19, od19, .func (PySem.W.fnOf "_law_least" "_law_least" (defArgs s_law_least) (defBody s_law_least) (defScope s_law_least) .none kV19 dc19 pm19 an19 cd19 ct19), sl19⟩)
    (c19 : PySem.W.codeIn K cd19 "_law_least" = true)
    (k19 : PySem.W.keepIn K (.ref f19) = true)
    (a20 : PySem.W.nsIn K mainGlobals "_law_crowds" = some (some (.ref f20)))
    (l20 : K.lookup f20 = some ⟨oc20, od20, .func (PySem.W.fnOf "_law_crowds" "_law_crowds" (defArgs s_law_crowds) (defBody s_law_crowds) (defScope s_law_crowds) .none kV20 dc20 pm20 an20 cd20 ct20), sl20⟩)
    (c20 : PySem.W.codeIn K cd20 "_law_crowds" = true)
    (k20 : PySem.W.keepIn K (.ref f20) = true)
    (a21 : PySem.W.nsIn K mainGlobals "check_values" = some (some (.ref f21)))
    (l21 : K.lookup f21 = some ⟨oc21, od21, .func (PySem.W.fnOf "check_values" "check_values" (defArgs s_check_values) (defBody s_check_values) (defScope s_check_values) .none kV21 dc21 pm21 an21 cd21 ct21), sl21⟩)
    (c21 : PySem.W.codeIn K cd21 "check_values" = true)
    (k21 : PySem.W.keepIn K (.ref f21) = true)
    (a22 : PySem.W.nsIn K mainGlobals "least_loss" = some (some (.ref f22)))
    (l22 : K.lookup f22 = some ⟨oc22, od22, .func (PySem.W.fnOf "least_loss" "least_loss" (defArgs s_least_loss) (defBody s_least_loss) (defScope s_least_loss) .none kV22 dc22 pm22 an22 cd22 ct22), sl22⟩)
    (c22 : PySem.W.codeIn K cd22 "least_loss" = true)
    (k22 : PySem.W.keepIn K (.ref f22) = true)
    (a23 : PySem.W.nsIn K mainGlobals "check_size" = some (some (.ref f23)))
    (l23 : K.lookup f23 = some ⟨oc23, od23, .func (PySem.W.fnOf "check_size" "check_size" (defArgs s_check_size) (defBody s_check_size) (defScope s_check_size) .none kV23 dc23 pm23 an23 cd23 ct23), sl23⟩)
    (c23 : PySem.W.codeIn K cd23 "check_size" = true)
    (k23 : PySem.W.keepIn K (.ref f23) = true)
    (a24 : PySem.W.nsIn K mainGlobals "check_stretch" = some (some (.ref f24)))
    (l24 : K.lookup f24 = some ⟨oc24, od24, .func (PySem.W.fnOf "check_stretch" "check_stretch" (defArgs s_check_stretch) (defBody s_check_stretch) (defScope s_check_stretch) .none kV24 dc24 pm24 an24 cd24 ct24), sl24⟩)
    (c24 : PySem.W.codeIn K cd24 "check_stretch" = true)
    (k24 : PySem.W.keepIn K (.ref f24) = true)
    (a25 : PySem.W.nsIn K mainGlobals "check_crowds" = some (some (.ref f25)))
    (l25 : K.lookup f25 = some ⟨oc25, od25, .func (PySem.W.fnOf "check_crowds" "check_crowds" (defArgs s_check_crowds) (defBody s_check_crowds) (defScope s_check_crowds) .none kV25 dc25 pm25 an25 cd25 ct25), sl25⟩)
    (c25 : PySem.W.codeIn K cd25 "check_crowds" = true)
    (k25 : PySem.W.keepIn K (.ref f25) = true)
    (a26 : PySem.W.nsIn K mainGlobals "stretch_loss" = some (some (.ref f26)))
    (l26 : K.lookup f26 = some ⟨oc26, od26, .func (PySem.W.fnOf "stretch_loss" "stretch_loss" (defArgs s_stretch_loss) (defBody s_stretch_loss) (defScope s_stretch_loss) .none kV26 dc26 pm26 an26 cd26 ct26), sl26⟩)
    (c26 : PySem.W.codeIn K cd26 "stretch_loss" = true)
    (k26 : PySem.W.keepIn K (.ref f26) = true)
    (a27 : PySem.W.nsIn K mainGlobals "middles" = some (some (.ref f27)))
    (l27 : K.lookup f27 = some ⟨oc27, od27, .func (PySem.W.fnOf "middles" "middles" (defArgs s_middles) (defBody s_middles) (defScope s_middles) .none kV27 dc27 pm27 an27 cd27 ct27), sl27⟩)
    (c27 : PySem.W.codeIn K cd27 "middles" = true)
    (k27 : PySem.W.keepIn K (.ref f27) = true)
    (a28 : PySem.W.nsIn K mainGlobals "line_loss" = some (some (.ref f28)))
    (l28 : K.lookup f28 = some ⟨oc28, od28, .func (PySem.W.fnOf "line_loss" "line_loss" (defArgs s_line_loss) (defBody s_line_loss) (defScope s_line_loss) .none kV28 dc28 pm28 an28 cd28 ct28), sl28⟩)
    (c28 : PySem.W.codeIn K cd28 "line_loss" = true)
    (k28 : PySem.W.keepIn K (.ref f28) = true)
    (a29 : PySem.W.nsIn K mainGlobals "one_more" = some (some (.ref f29)))
    (l29 : K.lookup f29 = some ⟨oc29, od29, .func (PySem.W.fnOf "one_more" "one_more" (defArgs s_one_more) (defBody s_one_more) (defScope s_one_more) .none kV29 dc29 pm29 an29 cd29 ct29), sl29⟩)
    (c29 : PySem.W.codeIn K cd29 "one_more" = true)
    (k29 : PySem.W.keepIn K (.ref f29) = true)
    (a30 : PySem.W.nsIn K mainGlobals "_law_right" = some (some (.ref f30)))
    (l30 : K.lookup f30 = some ⟨oc30, od30, .func (PySem.W.fnOf "_law_right" "_law_right" (defArgs s_law_right) (defBody s_law_right) (defScope s_law_right) .none kV30 dc30 pm30 an30 cd30 ct30), sl30⟩)
    (c30 : PySem.W.codeIn K cd30 "_law_right" = true)
    (k30 : PySem.W.keepIn K (.ref f30) = true)
    (a31 : PySem.W.nsIn K mainGlobals "law" = some (some (.ref f31)))
    (l31 : K.lookup f31 = some ⟨oc31, od31, .func (PySem.W.fnOf "law" "law" (defArgs s_law) (defBody s_law) (defScope s_law) .none kV31 dc31 pm31 an31 cd31 ct31), sl31⟩)
    (c31 : PySem.W.codeIn K cd31 "law" = true)
    (k31 : PySem.W.keepIn K (.ref f31) = true)
    (gv0 : PySem.W.nsIn K mainGlobals "MOST_VALUE" = some (some (.int 1000000 t0)))
    (gv1 : PySem.W.nsIn K mainGlobals "MOST_VALUES" = some (some (.int 200 t1)))
    (z0 : PySem.W.nsIn K mainGlobals "abs" = some none)
    (z1 : PySem.W.nsIn K mainGlobals "all" = some none)
    (z2 : PySem.W.nsIn K mainGlobals "bool" = some none)
    (z3 : PySem.W.nsIn K mainGlobals "dict" = some none)
    (z4 : PySem.W.nsIn K mainGlobals "int" = some none)
    (z5 : PySem.W.nsIn K mainGlobals "isinstance" = some none)
    (z6 : PySem.W.nsIn K mainGlobals "len" = some none)
    (z7 : PySem.W.nsIn K mainGlobals "list" = some none)
    (z8 : PySem.W.nsIn K mainGlobals "max" = some none)
    (z9 : PySem.W.nsIn K mainGlobals "min" = some none)
    (z10 : PySem.W.nsIn K mainGlobals "range" = some none)
    (z11 : PySem.W.nsIn K mainGlobals "repr" = some none)
    (z12 : PySem.W.nsIn K mainGlobals "sorted" = some none)
    (z13 : PySem.W.nsIn K mainGlobals "sum" = some none)
    (z14 : PySem.W.nsIn K mainGlobals "tuple" = some none)
    (z15 : PySem.W.nsIn K mainGlobals "zip" = some none)
    : ∃ fd : FuncData, (∀ (s : Shared) (v : Value), BindsTo s fd ⟨[v], []⟩ [("script", v)]) ∧ ∀ base : Heap, K.In base → base.Ns mainGlobals mg → FnG P w K mg base (CX P w) 9 fa fd ["script"] (spLaw 63) := by
  have e := hfa.symm.trans (PySem.W.mg_of X G a31)
  cases e
  have cl0 : Cls K C0 := ⟨pg0, hd0, po0, sa0⟩
  have hT : ∃ T : Tb, T = (tbOf K nmL (by decide +kernel) 2 fun c => [C0].getD c C0) := ⟨_, rfl⟩
  obtain ⟨T, hT⟩ := hT
  have tc0 : T.cl 0 = C0 := by rw [hT]; rfl
  have tn0 : T.nm 0 = "own_values" := by rw [hT]; show nmOf nmL 0 = _; exact nmOf_at rfl
  have tn1 : T.nm 1 = "own_sums" := by rw [hT]; show nmOf nmL 1 = _; exact nmOf_at rfl
  have tn2 : T.nm 2 = "loss" := by rw [hT]; show nmOf nmL 2 = _; exact nmOf_at rfl
  have tn3 : T.nm 3 = "least" := by rw [hT]; show nmOf nmL 3 = _; exact nmOf_at rfl
  have tn4 : T.nm 4 = "cuts" := by rw [hT]; show nmOf nmL 4 = _; exact nmOf_at rfl
  have sh : Sh K mg T M0 := by
    subst hT
    refine ⟨rfl, fun c f hf => ?_, fun i x hx => nmOf_at hx, rfl, fun x hx => allNone_at (l := bltL) ⟨PySem.W.mg_none_of X G z0, PySem.W.mg_none_of X G z1, PySem.W.mg_none_of X G z2, PySem.W.mg_none_of X G z3, PySem.W.mg_none_of X G z4, PySem.W.mg_none_of X G z5, PySem.W.mg_none_of X G z6, PySem.W.mg_none_of X G z7, PySem.W.mg_none_of X G z8, PySem.W.mg_none_of X G z9, PySem.W.mg_none_of X G z10, PySem.W.mg_none_of X G z11, PySem.W.mg_none_of X G z12, PySem.W.mg_none_of X G z13, PySem.W.mg_none_of X G z14, PySem.W.mg_none_of X G z15, trivial⟩ hx⟩
    match c, f, hf with
    | 0, 0, _ => exact ⟨cl0, n0_0⟩
    | 0, 1, _ => exact ⟨cl0, n0_1⟩
    | _ + 1, 0, _ => exact ⟨cl0, n0_0⟩
    | _ + 1, 1, _ => exact ⟨cl0, n0_1⟩
    | _, f + 2, hf => exact absurd (show f + 2 < 2 from hf) (by omega)
  have it0 : ∀ base, ItemOk P w K mg base T 0 (gvF (.int 1000000)) (.gv "MOST_VALUE") := fun base => item_gv (v := .int 1000000) (PySem.W.mg_of X G gv0) ⟨_, rfl⟩ (fun _ _ _ => .int)
  have it1 : ∀ base, ItemOk P w K mg base T 0 (gvF (.int 200)) (.gv "MOST_VALUES") := fun base => item_gv (v := .int 200) (PySem.W.mg_of X G gv1) ⟨_, rfl⟩ (fun _ _ _ => .int)
  have J0 : ∀ base, ItemsOk P w K mg base T 0 R0 I0 := fun base => ⟨(it0 base).mono (by decide), (it1 base).mono (by decide), trivial⟩
  have G0 : ∀ base, FnG P w K mg base (CX P w) 1 f0 (PySem.W.fnOf "is_integer" "is_integer" (defArgs s_is_integer) (defBody s_is_integer) (defScope s_is_integer) .none kV0 dc0 pm0 an0 cd0 ct0) ["value"] (spF T F_is_integer) := fun base =>
    def_ok (M := M_is_integer) (Fs := R0) (N := N_is_integer) (fun_mk (st := s_is_integer) l0 c0 k0) sc_is_integer rfl (sh.to rfl rfl rfl) rfl rfl J0 chk_is_integer base
  have G1 : ∀ base, FnG P w K mg base (CX P w) 1 f1 (PySem.W.fnOf "__init__" "Line.__init__" (defArgs s_Line_init) (defBody s_Line_init) (defScope s_Line_init) .none kV1 dc1 pm1 an1 cd1 ct1) ["self", "values"] (spF T F_Line_init) := fun base =>
    def_ok (M := M_Line_init) (Fs := R0) (N := N_Line_init) (fun_mk (st := s_Line_init) l1 c1 k1) sc_Line_init rfl (sh.to rfl rfl rfl) rfl rfl J0 chk_Line_init base
  have G2 : ∀ base, FnG P w K mg base (CX P w) 1 f2 (PySem.W.fnOf "loss" "Line.loss" (defArgs s_Line_loss) (defBody s_Line_loss) (defScope s_Line_loss) .none kV2 dc2 pm2 an2 cd2 ct2) ["self", "begin", "end"] (spF T F_Line_loss) := fun base =>
    def_ok (M := M_Line_loss) (Fs := R0) (N := N_Line_loss) (fun_mk (st := s_Line_loss) l2 c2 k2) sc_Line_loss rfl (sh.to rfl rfl rfl) rfl rfl J0 chk_Line_loss base
  have G3 : ∀ base, FnG P w K mg base (CX P w) 1 f3 (PySem.W.fnOf "loss_of" "loss_of" (defArgs s_loss_of) (defBody s_loss_of) (defScope s_loss_of) .none kV3 dc3 pm3 an3 cd3 ct3) ["values", "crowds", "shown"] (spF T F_loss_of) := fun base =>
    def_ok (M := M_loss_of) (Fs := R0) (N := N_loss_of) (fun_mk (st := s_loss_of) l3 c3 k3) sc_loss_of rfl (sh.to rfl rfl rfl) rfl rfl J0 chk_loss_of base
  have G4 : ∀ base, FnG P w K mg base (CX P w) 1 f4 (PySem.W.fnOf "_law_pot" "_law_pot" (defArgs s_law_pot) (defBody s_law_pot) (defScope s_law_pot) .none kV4 dc4 pm4 an4 cd4 ct4) ["script", "place"] (spF T F_law_pot) := fun base =>
    def_ok (M := M_law_pot) (Fs := R0) (N := N_law_pot) (fun_mk (st := s_law_pot) l4 c4 k4) sc_law_pot rfl (sh.to rfl rfl rfl) rfl rfl J0 chk_law_pot base
  have G5 : ∀ base, FnG P w K mg base (CX P w) 1 f5 (PySem.W.fnOf "_law_take" "_law_take" (defArgs s_law_take) (defBody s_law_take) (defScope s_law_take) .none kV5 dc5 pm5 an5 cd5 ct5) ["pot", "upto"] (spF T F_law_take) := fun base =>
    def_ok (M := M_law_take) (Fs := R0) (N := N_law_take) (fun_mk (st := s_law_take) l5 c5 k5) sc_law_take rfl (sh.to rfl rfl rfl) rfl rfl J0 chk_law_take base
  have G6 : ∀ base, FnG P w K mg base (CX P w) 1 f6 (PySem.W.fnOf "_law_cells" "_law_cells" (defArgs s_law_cells) (defBody s_law_cells) (defScope s_law_cells) .none kV6 dc6 pm6 an6 cd6 ct6) ["script", "most"] (spF T F_law_cells) := fun base =>
    def_ok (M := M_law_cells) (Fs := R0) (N := N_law_cells) (fun_mk (st := s_law_cells) l6 c6 k6) sc_law_cells rfl (sh.to rfl rfl rfl) rfl rfl J0 chk_law_cells base
  have G7 : ∀ base, FnG P w K mg base (CX P w) 1 f7 (PySem.W.fnOf "_law_crowd_cost" "_law_crowd_cost" (defArgs s_law_crowd_cost) (defBody s_law_crowd_cost) (defScope s_law_crowd_cost) .none kV7 dc7 pm7 an7 cd7 ct7) ["members"] (spF T F_law_crowd_cost) := fun base =>
    def_ok (M := M_law_crowd_cost) (Fs := R0) (N := N_law_crowd_cost) (fun_mk (st := s_law_crowd_cost) l7 c7 k7) sc_law_crowd_cost rfl (sh.to rfl rfl rfl) rfl rfl J0 chk_law_crowd_cost base
  have G8 : ∀ base, FnG P w K mg base (CX P w) 1 f8 (PySem.W.fnOf "_law_middles_of" "_law_middles_of" (defArgs s_law_middles_of) (defBody s_law_middles_of) (defScope s_law_middles_of) .none kV8 dc8 pm8 an8 cd8 ct8) ["members"] (spF T F_law_middles_of) := fun base =>
    def_ok (M := M_law_middles_of) (Fs := R0) (N := N_law_middles_of) (fun_mk (st := s_law_middles_of) l8 c8 k8) sc_law_middles_of rfl (sh.to rfl rfl rfl) rfl rfl J0 chk_law_middles_of base
  have it2 : ∀ base, ItemOk P w K mg base T 1 F_Line_loss (.mt 0 2 2) := fun base => (item_mt G2 (by rw [tc0]; exact cl0) (by rw [tc0, tn2]; exact ⟨a2, i2, k2⟩) (fun us hl => match us, hl with | [_, _, _], _ => rfl))
  have it3 : ∀ base, ItemOk P w K mg base T 1 F_law_cells (.fn "_law_cells" 2 []) := fun base => (item_fn G6 (PySem.W.mg_of X G a6) k6 (fun us hl => match us, hl with | [_, _], _ => rfl))
  have it4 : ∀ base, ItemOk P w K mg base T 1 F_law_crowd_cost (.fn "_law_crowd_cost" 1 []) := fun base => (item_fn G7 (PySem.W.mg_of X G a7) k7 (fun us hl => match us, hl with | [_], _ => rfl))
  have it5 : ∀ base, ItemOk P w K mg base T 1 F_law_middles_of (.fn "_law_middles_of" 1 []) := fun base => (item_fn G8 (PySem.W.mg_of X G a8) k8 (fun us hl => match us, hl with | [_], _ => rfl))
  have it6 : ∀ base, ItemOk P w K mg base T 1 F_law_pot (.fn "_law_pot" 2 []) := fun base => (item_fn G4 (PySem.W.mg_of X G a4) k4 (fun us hl => match us, hl with | [_, _], _ => rfl))
  have it7 : ∀ base, ItemOk P w K mg base T 1 F_law_take (.fn "_law_take" 2 []) := fun base => (item_fn G5 (PySem.W.mg_of X G a5) k5 (fun us hl => match us, hl with | [_, _], _ => rfl))
  have it8 : ∀ base, ItemOk P w K mg base T 1 F_is_integer (.fn "is_integer" 1 []) := fun base => (item_fn G0 (PySem.W.mg_of X G a0) k0 (fun us hl => match us, hl with | [_], _ => rfl))
  have it9 : ∀ base, ItemOk P w K mg base T 1 F_loss_of (.fn "loss_of" 3 []) := fun base => (item_fn G3 (PySem.W.mg_of X G a3) k3 (fun us hl => match us, hl with | [_, _, _], _ => rfl))
  have J1 : ∀ base, ItemsOk P w K mg base T 1 R1 I1 := fun base => ⟨(it0 base).mono (by decide), (it1 base).mono (by decide), (it2 base).mono (by decide), (it3 base).mono (by decide), (it4 base).mono (by decide), (it5 base).mono (by decide), (it6 base).mono (by decide), (it7 base).mono (by decide), (it8 base).mono (by decide), (it9 base).mono (by decide), trivial⟩
  have G9 : ∀ base, FnG P w K mg base (CX P w) 2 f9 (PySem.W.fnOf "is_within" "is_within" (defArgs s_is_within) (defBody s_is_within) (defScope s_is_within) .none kV9 dc9 pm9 an9 cd9 ct9) ["value", "least", "most"] (spF T F_is_within) := fun base =>
    def_ok (M := M_is_within) (Fs := R1) (N := N_is_within) (fun_mk (st := s_is_within) l9 c9 k9) sc_is_within rfl (sh.to rfl rfl rfl) rfl rfl J1 chk_is_within base
  have G10 : ∀ base, FnG P w K mg base (CX P w) 2 f10 (PySem.W.fnOf "is_shown" "is_shown" (defArgs s_is_shown) (defBody s_is_shown) (defScope s_is_shown) .none kV10 dc10 pm10 an10 cd10 ct10) ["crowds", "value"] (spF T F_is_shown) := fun base =>
    def_ok (M := M_is_shown) (Fs := R1) (N := N_is_shown) (fun_mk (st := s_is_shown) l10 c10 k10) sc_is_shown rfl (sh.to rfl rfl rfl) rfl rfl J1 chk_is_shown base
  have G11 : ∀ base, FnG P w K mg base (CX P w) 2 f11 (PySem.W.fnOf "cuts" "Line.cuts" (defArgs s_Line_cuts) (defBody s_Line_cuts) (defScope s_Line_cuts) .none kV11 dc11 pm11 an11 cd11 ct11) ["self", "size"] (spF T F_Line_cuts) := fun base =>
    def_ok (M := M_Line_cuts) (Fs := R1) (N := N_Line_cuts) (fun_mk (st := s_Line_cuts) l11 c11 k11) sc_Line_cuts rfl (sh.to rfl rfl rfl) rfl rfl J1 chk_Line_cuts base
  have G12 : ∀ base, FnG P w K mg base (CX P w) 2 f12 (PySem.W.fnOf "_law_of" "_law_of" (defArgs s_law_of) (defBody s_law_of) (defScope s_law_of) .none kV12 dc12 pm12 an12 cd12 ct12) ["pot", "some"] (spF T F_law_of) := fun base =>
    def_ok (M := M_law_of) (Fs := R1) (N := N_law_of) (fun_mk (st := s_law_of) l12 c12 k12) sc_law_of rfl (sh.to rfl rfl rfl) rfl rfl J1 chk_law_of base
  have G13 : ∀ base, FnG P w K mg base (CX P w) 2 f13 (PySem.W.fnOf "_law_some" "_law_some" (defArgs s_law_some) (defBody s_law_some) (defScope s_law_some) .none kV13 dc13 pm13 an13 cd13 ct13) ["pot", "pool", "amount"] (spF T F_law_some) := fun base =>
    def_ok (M := M_law_some) (Fs := R1) (N := N_law_some) (fun_mk (st := s_law_some) l13 c13 k13) sc_law_some rfl (sh.to rfl rfl rfl) rfl rfl J1 chk_law_some base
  have G14 : ∀ base, FnG P w K mg base (CX P w) 2 f14 (PySem.W.fnOf "_law_cut_costs" "_law_cut_costs" (defArgs s_law_cut_costs) (defBody s_law_cut_costs) (defScope s_law_cut_costs) .none kV14 dc14 pm14 an14 cd14 ct14) ["values", "least"] (spF T F_law_cut_costs) := fun base =>
    def_ok (M := M_law_cut_costs) (Fs := R1) (N := N_law_cut_costs) (fun_mk (st := s_law_cut_costs) l14 c14 k14) sc_law_cut_costs rfl (sh.to rfl rfl rfl) rfl rfl J1 chk_law_cut_costs base
  have it10 : ∀ base, ItemOk P w K mg base T 2 F_Line_init (.mk 0 "Line" 1 []) := fun base => (item_mk G1 (by rw [tc0]; exact ⟨mk0, a1, i1, kc0⟩) (by rw [tc0]; exact PySem.W.mg_of X G aC0) (fun us hl => match us, hl with | [_, _], _ => rfl))
  have it11 : ∀ base, ItemOk P w K mg base T 2 F_Line_cuts (.mt 0 4 1) := fun base => (item_mt G11 (by rw [tc0]; exact cl0) (by rw [tc0, tn4]; exact ⟨a11, i11, k11⟩) (fun us hl => match us, hl with | [_, _], _ => rfl))
  have it12 : ∀ base, ItemOk P w K mg base T 2 F_law_cut_costs (.fn "_law_cut_costs" 2 []) := fun base => (item_fn G14 (PySem.W.mg_of X G a14) k14 (fun us hl => match us, hl with | [_, _], _ => rfl))
  have it13 : ∀ base, ItemOk P w K mg base T 2 F_law_of (.fn "_law_of" 2 []) := fun base => (item_fn G12 (PySem.W.mg_of X G a12) k12 (fun us hl => match us, hl with | [_, _], _ => rfl))
  have it14 : ∀ base, ItemOk P w K mg base T 2 F_law_some (.fn "_law_some" 3 []) := fun base => (item_fn G13 (PySem.W.mg_of X G a13) k13 (fun us hl => match us, hl with | [_, _, _], _ => rfl))
  have it15 : ∀ base, ItemOk P w K mg base T 2 F_is_shown (.fn "is_shown" 2 []) := fun base => (item_fn G10 (PySem.W.mg_of X G a10) k10 (fun us hl => match us, hl with | [_, _], _ => rfl))
  have it16 : ∀ base, ItemOk P w K mg base T 2 F_is_within (.fn "is_within" 3 []) := fun base => (item_fn G9 (PySem.W.mg_of X G a9) k9 (fun us hl => match us, hl with | [_, _, _], _ => rfl))
  have J2 : ∀ base, ItemsOk P w K mg base T 2 R2 I2 := fun base => ⟨(it0 base).mono (by decide), (it1 base).mono (by decide), (it2 base).mono (by decide), (it3 base).mono (by decide), (it4 base).mono (by decide), (it5 base).mono (by decide), (it6 base).mono (by decide), (it7 base).mono (by decide), (it8 base).mono (by decide), (it9 base).mono (by decide), (it10 base).mono (by decide), (it11 base).mono (by decide), (it12 base).mono (by decide), (it13 base).mono (by decide), (it14 base).mono (by decide), (it15 base).mono (by decide), (it16 base).mono (by decide), trivial⟩
  have G15 : ∀ base, FnG P w K mg base (CX P w) 3 f15 (PySem.W.fnOf "is_line_value" "is_line_value" (defArgs s_is_line_value) (defBody s_is_line_value) (defScope s_is_line_value) .none kV15 dc15 pm15 an15 cd15 ct15) ["value"] (spF T F_is_line_value) := fun base =>
    def_ok (M := M_is_line_value) (Fs := R2) (N := N_is_line_value) (fun_mk (st := s_is_line_value) l15 c15 k15) sc_is_line_value rfl (sh.to rfl rfl rfl) rfl rfl J2 chk_is_line_value base
  have G16 : ∀ base, FnG P w K mg base (CX P w) 3 f16 (PySem.W.fnOf "are_crowds" "are_crowds" (defArgs s_are_crowds) (defBody s_are_crowds) (defScope s_are_crowds) .none kV16 dc16 pm16 an16 cd16 ct16) ["many", "size", "value"] (spF T F_are_crowds) := fun base =>
    def_ok (M := M_are_crowds) (Fs := R2) (N := N_are_crowds) (fun_mk (st := s_are_crowds) l16 c16 k16) sc_are_crowds rfl (sh.to rfl rfl rfl) rfl rfl J2 chk_are_crowds base
  have G17 : ∀ base, FnG P w K mg base (CX P w) 3 f17 (PySem.W.fnOf "least" "Line.least" (defArgs s_Line_least) (defBody s_Line_least) (defScope s_Line_least) .none kV17 dc17 pm17 an17 cd17 ct17) ["self", "size"] (spF T F_Line_least) := fun base =>
    def_ok (M := M_Line_least) (Fs := R2) (N := N_Line_least) (fun_mk (st := s_Line_least) l17 c17 k17) sc_Line_least rfl (sh.to rfl rfl rfl) rfl rfl J2 chk_Line_least base
  have G18 : ∀ base, FnG P w K mg base (CX P w) 3 f18 (PySem.W.fnOf "_law_line_values" "_law_line_values" (defArgs s_law_line_values) (defBody s_law_line_values) (defScope s_law_line_values) .none kV18 dc18 pm18 an18 cd18 ct18) ["pot", "most"] (spF T F_law_line_values) := fun base =>
    def_ok (M := M_law_line_values) (Fs := R2) (N := N_law_line_values) (fun_mk (st := s_law_line_values) l18 c18 k18) sc_law_line_values rfl (sh.to rfl rfl rfl) rfl rfl J2 chk_law_line_values base
  have G19 : ∀ base, FnG P w K mg base (CX P w) 3 f19 (PySem.W.fnOf "_law_least" "_law_least" (defArgs s_law_least) (defBody s_law_least) (defScope s_law_least) .none kV19 dc19 pm19 an19 cd19 ct19) ["values", "least"] (spF T F_law_least) := fun base =>
    def_ok (M := M_law_least) (Fs := R2) (N := N_law_least) (fun_mk (st := s_law_least) l19 c19 k19) sc_law_least rfl (sh.to rfl rfl rfl) rfl rfl J2 chk_law_least base
  have G20 : ∀ base, FnG P w K mg base (CX P w) 3 f20 (PySem.W.fnOf "_law_crowds" "_law_crowds" (defArgs s_law_crowds) (defBody s_law_crowds) (defScope s_law_crowds) .none kV20 dc20 pm20 an20 cd20 ct20) ["pot", "amount", "least"] (spF T F_law_crowds) := fun base =>
    def_ok (M := M_law_crowds) (Fs := R2) (N := N_law_crowds) (fun_mk (st := s_law_crowds) l20 c20 k20) sc_law_crowds rfl (sh.to rfl rfl rfl) rfl rfl J2 chk_law_crowds base
  have it17 : ∀ base, ItemOk P w K mg base T 3 F_Line_least (.mt 0 3 1) := fun base => (item_mt G17 (by rw [tc0]; exact cl0) (by rw [tc0, tn3]; exact ⟨a17, i17, k17⟩) (fun us hl => match us, hl with | [_, _], _ => rfl))
  have it18 : ∀ base, ItemOk P w K mg base T 3 F_law_crowds (.fn "_law_crowds" 3 []) := fun base => (item_fn G20 (PySem.W.mg_of X G a20) k20 (fun us hl => match us, hl with | [_, _, _], _ => rfl))
  have it19 : ∀ base, ItemOk P w K mg base T 3 F_law_least (.fn "_law_least" 2 []) := fun base => (item_fn G19 (PySem.W.mg_of X G a19) k19 (fun us hl => match us, hl with | [_, _], _ => rfl))
  have it20 : ∀ base, ItemOk P w K mg base T 3 F_law_line_values (.fn "_law_line_values" 2 []) := fun base => (item_fn G18 (PySem.W.mg_of X G a18) k18 (fun us hl => match us, hl with | [_, _], _ => rfl))
  have it21 : ∀ base, ItemOk P w K mg base T 3 F_are_crowds (.fn "are_crowds" 3 []) := fun base => (item_fn G16 (PySem.W.mg_of X G a16) k16 (fun us hl => match us, hl with | [_, _, _], _ => rfl))
  have it22 : ∀ base, ItemOk P w K mg base T 3 F_is_line_value (.fn "is_line_value" 1 []) := fun base => (item_fn G15 (PySem.W.mg_of X G a15) k15 (fun us hl => match us, hl with | [_], _ => rfl))
  have J3 : ∀ base, ItemsOk P w K mg base T 3 R3 I3 := fun base => ⟨(it0 base).mono (by decide), (it1 base).mono (by decide), (it2 base).mono (by decide), (it3 base).mono (by decide), (it4 base).mono (by decide), (it5 base).mono (by decide), (it6 base).mono (by decide), (it7 base).mono (by decide), (it8 base).mono (by decide), (it9 base).mono (by decide), (it10 base).mono (by decide), (it11 base).mono (by decide), (it12 base).mono (by decide), (it13 base).mono (by decide), (it14 base).mono (by decide), (it15 base).mono (by decide), (it16 base).mono (by decide), (it17 base).mono (by decide), (it18 base).mono (by decide), (it19 base).mono (by decide), (it20 base).mono (by decide), (it21 base).mono (by decide), (it22 base).mono (by decide), trivial⟩
  have G21 : ∀ base, FnG P w K mg base (CX P w) 4 f21 (PySem.W.fnOf "check_values" "check_values" (defArgs s_check_values) (defBody s_check_values) (defScope s_check_values) .none kV21 dc21 pm21 an21 cd21 ct21) ["values"] (spF T F_check_values) := fun base =>
    def_ok (M := M_check_values) (Fs := R3) (N := N_check_values) (fun_mk (st := s_check_values) l21 c21 k21) sc_check_values rfl (sh.to rfl rfl rfl) rfl rfl J3 chk_check_values base
  have G22 : ∀ base, FnG P w K mg base (CX P w) 4 f22 (PySem.W.fnOf "least_loss" "least_loss" (defArgs s_least_loss) (defBody s_least_loss) (defScope s_least_loss) .none kV22 dc22 pm22 an22 cd22 ct22) ["values", "size"] (spF T F_least_loss) := fun base =>
    def_ok (M := M_least_loss) (Fs := R3) (N := N_least_loss) (fun_mk (st := s_least_loss) l22 c22 k22) sc_least_loss rfl (sh.to rfl rfl rfl) rfl rfl J3 chk_least_loss base
  have it23 : ∀ base, ItemOk P w K mg base T 4 F_check_values (.fn "check_values" 1 []) := fun base => (item_fn G21 (PySem.W.mg_of X G a21) k21 (fun us hl => match us, hl with | [_], _ => rfl))
  have it24 : ∀ base, ItemOk P w K mg base T 4 F_least_loss (.fn "least_loss" 2 []) := fun base => (item_fn G22 (PySem.W.mg_of X G a22) k22 (fun us hl => match us, hl with | [_, _], _ => rfl))
  have J4 : ∀ base, ItemsOk P w K mg base T 4 R4 I4 := fun base => ⟨(it0 base).mono (by decide), (it1 base).mono (by decide), (it2 base).mono (by decide), (it3 base).mono (by decide), (it4 base).mono (by decide), (it5 base).mono (by decide), (it6 base).mono (by decide), (it7 base).mono (by decide), (it8 base).mono (by decide), (it9 base).mono (by decide), (it10 base).mono (by decide), (it11 base).mono (by decide), (it12 base).mono (by decide), (it13 base).mono (by decide), (it14 base).mono (by decide), (it15 base).mono (by decide), (it16 base).mono (by decide), (it17 base).mono (by decide), (it18 base).mono (by decide), (it19 base).mono (by decide), (it20 base).mono (by decide), (it21 base).mono (by decide), (it22 base).mono (by decide), (it23 base).mono (by decide), (it24 base).mono (by decide), trivial⟩
  have G23 : ∀ base, FnG P w K mg base (CX P w) 5 f23 (PySem.W.fnOf "check_size" "check_size" (defArgs s_check_size) (defBody s_check_size) (defScope s_check_size) .none kV23 dc23 pm23 an23 cd23 ct23) ["values", "size"] (spF T F_check_size) := fun base =>
    def_ok (M := M_check_size) (Fs := R4) (N := N_check_size) (fun_mk (st := s_check_size) l23 c23 k23) sc_check_size rfl (sh.to rfl rfl rfl) rfl rfl J4 chk_check_size base
  have G24 : ∀ base, FnG P w K mg base (CX P w) 5 f24 (PySem.W.fnOf "check_stretch" "check_stretch" (defArgs s_check_stretch) (defBody s_check_stretch) (defScope s_check_stretch) .none kV24 dc24 pm24 an24 cd24 ct24) ["values", "begin", "end"] (spF T F_check_stretch) := fun base =>
    def_ok (M := M_check_stretch) (Fs := R4) (N := N_check_stretch) (fun_mk (st := s_check_stretch) l24 c24 k24) sc_check_stretch rfl (sh.to rfl rfl rfl) rfl rfl J4 chk_check_stretch base
  have it25 : ∀ base, ItemOk P w K mg base T 5 F_check_size (.fn "check_size" 2 []) := fun base => (item_fn G23 (PySem.W.mg_of X G a23) k23 (fun us hl => match us, hl with | [_, _], _ => rfl))
  have it26 : ∀ base, ItemOk P w K mg base T 5 F_check_stretch (.fn "check_stretch" 3 []) := fun base => (item_fn G24 (PySem.W.mg_of X G a24) k24 (fun us hl => match us, hl with | [_, _, _], _ => rfl))
  have J5 : ∀ base, ItemsOk P w K mg base T 5 R5 I5 := fun base => ⟨(it0 base).mono (by decide), (it1 base).mono (by decide), (it2 base).mono (by decide), (it3 base).mono (by decide), (it4 base).mono (by decide), (it5 base).mono (by decide), (it6 base).mono (by decide), (it7 base).mono (by decide), (it8 base).mono (by decide), (it9 base).mono (by decide), (it10 base).mono (by decide), (it11 base).mono (by decide), (it12 base).mono (by decide), (it13 base).mono (by decide), (it14 base).mono (by decide), (it15 base).mono (by decide), (it16 base).mono (by decide), (it17 base).mono (by decide), (it18 base).mono (by decide), (it19 base).mono (by decide), (it20 base).mono (by decide), (it21 base).mono (by decide), (it22 base).mono (by decide), (it23 base).mono (by decide), (it24 base).mono (by decide), (it25 base).mono (by decide), (it26 base).mono (by decide), trivial⟩
  have G25 : ∀ base, FnG P w K mg base (CX P w) 6 f25 (PySem.W.fnOf "check_crowds" "check_crowds" (defArgs s_check_crowds) (defBody s_check_crowds) (defScope s_check_crowds) .none kV25 dc25 pm25 an25 cd25 ct25) ["values", "size"] (spF T F_check_crowds) := fun base =>
    def_ok (M := M_check_crowds) (Fs := R5) (N := N_check_crowds) (fun_mk (st := s_check_crowds) l25 c25 k25) sc_check_crowds rfl (sh.to rfl rfl rfl) rfl rfl J5 chk_check_crowds base
  have G26 : ∀ base, FnG P w K mg base (CX P w) 6 f26 (PySem.W.fnOf "stretch_loss" "stretch_loss" (defArgs s_stretch_loss) (defBody s_stretch_loss) (defScope s_stretch_loss) .none kV26 dc26 pm26 an26 cd26 ct26) ["values", "begin", "end"] (spF T F_stretch_loss) := fun base =>
    def_ok (M := M_stretch_loss) (Fs := R5) (N := N_stretch_loss) (fun_mk (st := s_stretch_loss) l26 c26 k26) sc_stretch_loss rfl (sh.to rfl rfl rfl) rfl rfl J5 chk_stretch_loss base
  have G27 : ∀ base, FnG P w K mg base (CX P w) 6 f27 (PySem.W.fnOf "middles" "middles" (defArgs s_middles) (defBody s_middles) (defScope s_middles) .none kV27 dc27 pm27 an27 cd27 ct27) ["values", "begin", "end"] (spF T F_middles) := fun base =>
    def_ok (M := M_middles) (Fs := R5) (N := N_middles) (fun_mk (st := s_middles) l27 c27 k27) sc_middles rfl (sh.to rfl rfl rfl) rfl rfl J5 chk_middles base
  have G28 : ∀ base, FnG P w K mg base (CX P w) 6 f28 (PySem.W.fnOf "line_loss" "line_loss" (defArgs s_line_loss) (defBody s_line_loss) (defScope s_line_loss) .none kV28 dc28 pm28 an28 cd28 ct28) ["values", "size", "crowds", "shown"] (spF T F_line_loss) := fun base =>
    def_ok (M := M_line_loss) (Fs := R5) (N := N_line_loss) (fun_mk (st := s_line_loss) l28 c28 k28) sc_line_loss rfl (sh.to rfl rfl rfl) rfl rfl J5 chk_line_loss base
  have it27 : ∀ base, ItemOk P w K mg base T 6 F_check_crowds (.fn "check_crowds" 2 []) := fun base => (item_fn G25 (PySem.W.mg_of X G a25) k25 (fun us hl => match us, hl with | [_, _], _ => rfl))
  have it28 : ∀ base, ItemOk P w K mg base T 6 K_line_loss_shown_crowds_size_values (.fn "line_loss" 0 ["shown", "crowds", "size", "values"]) := fun base => (item_kw (n := 0) (ks := ["shown", "crowds", "size", "values"]) G28 (PySem.W.mg_of X G a28) k28 (by decide) rfl (fun us hl => match us, hl with | [_, _, _, _], _ => rfl))
  have it29 : ∀ base, ItemOk P w K mg base T 6 K_middles_end_begin_values (.fn "middles" 0 ["end", "begin", "values"]) := fun base => (item_kw (n := 0) (ks := ["end", "begin", "values"]) G27 (PySem.W.mg_of X G a27) k27 (by decide) rfl (fun us hl => match us, hl with | [_, _, _], _ => rfl))
  have it30 : ∀ base, ItemOk P w K mg base T 6 K_stretch_loss_end_begin_values (.fn "stretch_loss" 0 ["end", "begin", "values"]) := fun base => (item_kw (n := 0) (ks := ["end", "begin", "values"]) G26 (PySem.W.mg_of X G a26) k26 (by decide) rfl (fun us hl => match us, hl with | [_, _, _], _ => rfl))
  have J6 : ∀ base, ItemsOk P w K mg base T 6 R6 I6 := fun base => ⟨(it0 base).mono (by decide), (it1 base).mono (by decide), (it2 base).mono (by decide), (it3 base).mono (by decide), (it4 base).mono (by decide), (it5 base).mono (by decide), (it6 base).mono (by decide), (it7 base).mono (by decide), (it8 base).mono (by decide), (it9 base).mono (by decide), (it10 base).mono (by decide), (it11 base).mono (by decide), (it12 base).mono (by decide), (it13 base).mono (by decide), (it14 base).mono (by decide), (it15 base).mono (by decide), (it16 base).mono (by decide), (it17 base).mono (by decide), (it18 base).mono (by decide), (it19 base).mono (by decide), (it20 base).mono (by decide), (it21 base).mono (by decide), (it22 base).mono (by decide), (it23 base).mono (by decide), (it24 base).mono (by decide), (it25 base).mono (by decide), (it26 base).mono (by decide), (it27 base).mono (by decide), (it28 base).mono (by decide), (it29 base).mono (by decide), (it30 base).mono (by decide), trivial⟩
  have G29 : ∀ base, FnG P w K mg base (CX P w) 7 f29 (PySem.W.fnOf "one_more" "one_more" (defArgs s_one_more) (defBody s_one_more) (defScope s_one_more) .none kV29 dc29 pm29 an29 cd29 ct29) ["values", "size", "value"] (spF T F_one_more) := fun base =>
    def_ok (M := M_one_more) (Fs := R6) (N := N_one_more) (fun_mk (st := s_one_more) l29 c29 k29) sc_one_more rfl (sh.to rfl rfl rfl) rfl rfl J6 chk_one_more base
  have it31 : ∀ base, ItemOk P w K mg base T 7 K_one_more_value_size_values (.fn "one_more" 0 ["value", "size", "values"]) := fun base => (item_kw (n := 0) (ks := ["value", "size", "values"]) G29 (PySem.W.mg_of X G a29) k29 (by decide) rfl (fun us hl => match us, hl with | [_, _, _], _ => rfl))
  have J7 : ∀ base, ItemsOk P w K mg base T 7 R7 I7 := fun base => ⟨(it0 base).mono (by decide), (it1 base).mono (by decide), (it2 base).mono (by decide), (it3 base).mono (by decide), (it4 base).mono (by decide), (it5 base).mono (by decide), (it6 base).mono (by decide), (it7 base).mono (by decide), (it8 base).mono (by decide), (it9 base).mono (by decide), (it10 base).mono (by decide), (it11 base).mono (by decide), (it12 base).mono (by decide), (it13 base).mono (by decide), (it14 base).mono (by decide), (it15 base).mono (by decide), (it16 base).mono (by decide), (it17 base).mono (by decide), (it18 base).mono (by decide), (it19 base).mono (by decide), (it20 base).mono (by decide), (it21 base).mono (by decide), (it22 base).mono (by decide), (it23 base).mono (by decide), (it24 base).mono (by decide), (it25 base).mono (by decide), (it26 base).mono (by decide), (it27 base).mono (by decide), (it28 base).mono (by decide), (it29 base).mono (by decide), (it30 base).mono (by decide), (it31 base).mono (by decide), trivial⟩
  have G30 : ∀ base, FnG P w K mg base (CX P w) 8 f30 (PySem.W.fnOf "_law_right" "_law_right" (defArgs s_law_right) (defBody s_law_right) (defScope s_law_right) .none kV30 dc30 pm30 an30 cd30 ct30) ["pot"] (spF T F_law_right) := fun base =>
    def_ok (M := M_law_right) (Fs := R7) (N := N_law_right) (fun_mk (st := s_law_right) l30 c30 k30) sc_law_right rfl (sh.to rfl rfl rfl) rfl rfl J7 chk_law_right base
  have it32 : ∀ base, ItemOk P w K mg base T 8 F_law_right (.fn "_law_right" 1 []) := fun base => (item_fn G30 (PySem.W.mg_of X G a30) k30 (fun us hl => match us, hl with | [_], _ => rfl))
  have J8 : ∀ base, ItemsOk P w K mg base T 8 R8 I8 := fun base => ⟨(it0 base).mono (by decide), (it1 base).mono (by decide), (it2 base).mono (by decide), (it3 base).mono (by decide), (it4 base).mono (by decide), (it5 base).mono (by decide), (it6 base).mono (by decide), (it7 base).mono (by decide), (it8 base).mono (by decide), (it9 base).mono (by decide), (it10 base).mono (by decide), (it11 base).mono (by decide), (it12 base).mono (by decide), (it13 base).mono (by decide), (it14 base).mono (by decide), (it15 base).mono (by decide), (it16 base).mono (by decide), (it17 base).mono (by decide), (it18 base).mono (by decide), (it19 base).mono (by decide), (it20 base).mono (by decide), (it21 base).mono (by decide), (it22 base).mono (by decide), (it23 base).mono (by decide), (it24 base).mono (by decide), (it25 base).mono (by decide), (it26 base).mono (by decide), (it27 base).mono (by decide), (it28 base).mono (by decide), (it29 base).mono (by decide), (it30 base).mono (by decide), (it31 base).mono (by decide), (it32 base).mono (by decide), trivial⟩
  have G31 : ∀ base, FnG P w K mg base (CX P w) 9 fa (PySem.W.fnOf "law" "law" (defArgs s_law) (defBody s_law) (defScope s_law) .none kV31 dc31 pm31 an31 cd31 ct31) ["script"] (spF T F_law) := fun base =>
    def_ok (M := M_law) (Fs := R8) (N := N_law) (fun_mk (st := s_law) l31 c31 k31) sc_law rfl (sh.to rfl rfl rfl) rfl rfl J8 chk_law base
  exact ⟨_, fun s v => .of_eq rfl, fun base _ _ => (G31 base).imp (law_spQ rfl plain)⟩
end
end LW
set_option linter.all false
namespace LineM
/-! ## stretches of a row -/
def P (r : Nat → Int) : Nat → Int
  | 0 => 0
  | k + 1 => P r k + r k
def iabs (i : Int) : Int := if i < 0 then -i else i
def D (r : Nat → Int) (c : Int) : Nat → Int
  | 0 => 0
  | k + 1 => D r c k + iabs (r k - c)
def loss (r : Nat → Int) (b e : Nat) : Int := (P r e - P r ((b + e) / 2)) - (P r ((b + e) / 2) - P r b) + r ((b + e) / 2) * ((((b + e) / 2 : Nat) : Int) - b - (e - (((b + e) / 2 : Nat) : Int)))
theorem D_low {r : Nat → Int} {c : Int} {b : Nat} : ∀ k : Nat, (k : Int) * c - (P r (b + k) - P r b) ≤ D r c (b + k) - D r c b
  | 0 => by simp
  | k + 1 => by
    have := D_low (r := r) (c := c) (b := b) k
    have e : (((k + 1 : Nat) : Int)) * c = (k : Int) * c + c := by rw [Int.natCast_add, Int.add_mul]; simp
    rw [← Nat.add_assoc, P, D, e]
    unfold iabs; split <;> omega
theorem D_high {r : Nat → Int} {c : Int} {b : Nat} : ∀ k : Nat, (P r (b + k) - P r b) - (k : Int) * c ≤ D r c (b + k) - D r c b
  | 0 => by simp
  | k + 1 => by
    have := D_high (r := r) (c := c) (b := b) k
    have e : (((k + 1 : Nat) : Int)) * c = (k : Int) * c + c := by rw [Int.natCast_add, Int.add_mul]; simp
    rw [← Nat.add_assoc, P, D, e]
    unfold iabs; split <;> omega
theorem D_low_eq {r : Nat → Int} {c : Int} {b : Nat} : ∀ k : Nat, (∀ i, b ≤ i → i < b + k → r i ≤ c) → D r c (b + k) - D r c b = (k : Int) * c - (P r (b + k) - P r b)
  | 0, _ => by simp
  | k + 1, h => by
    have := D_low_eq (r := r) (c := c) (b := b) k (fun i a d => h i a (by omega))
    have e : (((k + 1 : Nat) : Int)) * c = (k : Int) * c + c := by rw [Int.natCast_add, Int.add_mul]; simp
    have := h (b + k) (by omega) (by omega)
    rw [← Nat.add_assoc, P, D, e]
    unfold iabs; split <;> omega
theorem D_high_eq {r : Nat → Int} {c : Int} {b : Nat} : ∀ k : Nat, (∀ i, b ≤ i → i < b + k → c ≤ r i) → D r c (b + k) - D r c b = (P r (b + k) - P r b) - (k : Int) * c
  | 0, _ => by simp
  | k + 1, h => by
    have := D_high_eq (r := r) (c := c) (b := b) k (fun i a d => h i a (by omega))
    have e : (((k + 1 : Nat) : Int)) * c = (k : Int) * c + c := by rw [Int.natCast_add, Int.add_mul]; simp
    have := h (b + k) (by omega) (by omega)
    rw [← Nat.add_assoc, P, D, e]
    unfold iabs; split <;> omega
/-- shown by its middle: what it loses -/
theorem loss_dev {r : Nat → Int} {n : Nat} (up : ∀ i j, i ≤ j → j < n → r i ≤ r j) {b e : Nat} (hb : b < e) (he : e ≤ n) : loss r b e = D r (r ((b + e) / 2)) e - D r (r ((b + e) / 2)) b := by
  unfold loss
  generalize hm : (b + e) / 2 = m
  have h1 : b ≤ m := by omega
  have h2 : m < e := by omega
  obtain ⟨k, rfl⟩ := Nat.exists_eq_add_of_le h1
  obtain ⟨l, rfl⟩ := Nat.exists_eq_add_of_le (Nat.le_of_lt h2)
  have a := D_low_eq (r := r) (c := r (b + k)) (b := b) k (fun i _ x => up i _ (by omega) (by omega))
  have d := D_high_eq (r := r) (c := r (b + k)) (b := b + k) l (fun i x y => up _ i (by omega) (by omega))
  have e1 : r (b + k) * ((((b + k : Nat) : Int)) - b - (((b + k + l : Nat) : Int) - ((b + k : Nat) : Int))) = (k : Int) * r (b + k) - (l : Int) * r (b + k) := by
    rw [show (((b + k : Nat) : Int)) - b - (((b + k + l : Nat) : Int) - ((b + k : Nat) : Int)) = (k : Int) - l by omega, Int.mul_sub, Int.mul_comm, Int.mul_comm (r (b + k)) (l : Int)]
  rw [e1]
  omega
/-- no other one loses less -/
theorem loss_le {r : Nat → Int} {b e : Nat} (hb : b < e) (c : Int) : loss r b e ≤ D r c e - D r c b := by
  unfold loss
  generalize hm : (b + e) / 2 = m
  have h1 : b ≤ m := by omega
  have h2 : m < e := by omega
  have h3 : m - b = e - m ∨ e - m = m - b + 1 := by omega
  obtain ⟨k, rfl⟩ := Nat.exists_eq_add_of_le h1
  obtain ⟨l, rfl⟩ := Nat.exists_eq_add_of_le (Nat.le_of_lt h2)
  have e1 : r (b + k) * ((((b + k : Nat) : Int)) - b - (((b + k + l : Nat) : Int) - ((b + k : Nat) : Int))) = (k : Int) * r (b + k) - (l : Int) * r (b + k) := by
    rw [show (((b + k : Nat) : Int)) - b - (((b + k + l : Nat) : Int) - ((b + k : Nat) : Int)) = (k : Int) - l by omega, Int.mul_sub, Int.mul_comm, Int.mul_comm (r (b + k)) (l : Int)]
  rw [e1]
  have a := D_low (r := r) (c := c) (b := b) k
  have d := D_high (r := r) (c := c) (b := b + k) l
  rcases h3 with h3 | h3
  · have : l = k := by omega
    subst this
    omega
  · have : l = k + 1 := by omega
    subst this
    have e2 : ∀ x : Int, (((k + 1 : Nat) : Int)) * x = (k : Int) * x + x := fun x => by rw [Int.natCast_add, Int.add_mul]; simp
    rw [e2] at d
    rw [e2]
    by_cases hc : c ≤ r (b + k)
    · omega
    · have a' := D_low (r := r) (c := c) (b := b) (k + 1)
      have d' := D_high (r := r) (c := c) (b := b + k + 1) k
      rw [e2, ← Nat.add_assoc, P] at a'
      rw [show b + k + 1 + k = b + k + (k + 1) by omega, P] at d'
      omega
theorem loss_nonneg {r : Nat → Int} {n : Nat} (up : ∀ i j, i ≤ j → j < n → r i ≤ r j) {b e : Nat} (hb : b < e) (he : e ≤ n) : 0 ≤ loss r b e := by
  rw [loss_dev up hb he]
  generalize r ((b + e) / 2) = c
  obtain ⟨k, rfl⟩ := Nat.exists_eq_add_of_le (Nat.le_of_lt hb)
  have h1 := D_low (r := r) (c := c) (b := b) k
  have h2 := D_high (r := r) (c := c) (b := b) k
  omega
/-- two stretches lose no more than the whole -/
theorem loss_split {r : Nat → Int} {n : Nat} (up : ∀ i j, i ≤ j → j < n → r i ≤ r j) {b m e : Nat} (h1 : b < m) (h2 : m < e) (he : e ≤ n) : loss r b m + loss r m e ≤ loss r b e := by
  rw [loss_dev (b := b) (e := e) up (by omega) he]
  have := loss_le (r := r) h1 (r ((b + e) / 2))
  have := loss_le (r := r) h2 (r ((b + e) / 2))
  omega
/-! ## least losses of cuts -/
def least : Int → List Int → Int
  | m, [] => m
  | m, x :: r => least (if x < m then x else m) r
def minO : List Int → Option Int
  | [] => none
  | x :: r => some (least x r)
theorem least_le : ∀ (r : List Int) (m : Int), least m r ≤ m ∧ (∀ x ∈ r, least m r ≤ x) ∧ (least m r = m ∨ least m r ∈ r)
  | [], m => ⟨Int.le_refl _, by simp, .inl rfl⟩
  | x :: r, m => by
    obtain ⟨a, b, c⟩ := least_le r (if x < m then x else m)
    have hx : (if x < m then x else m) = x ∨ (if x < m then x else m) = m := by split <;> simp
    have hl : (if x < m then x else m) ≤ m ∧ (if x < m then x else m) ≤ x := by split <;> omega
    rw [least]
    refine ⟨by omega, fun y hy => ?_, ?_⟩
    · rcases List.mem_cons.mp hy with rfl | hy
      · omega
      · exact b y hy
    · rcases c with c | c
      · rw [c]; rcases hx with hx | hx <;> rw [hx] <;> simp
      · simp [c]
theorem minO_some {l : List Int} {m : Int} : minO l = some m ↔ m ∈ l ∧ ∀ x ∈ l, m ≤ x := by
  cases l with
  | nil => simp [minO]
  | cons x r =>
    obtain ⟨a, b, c⟩ := least_le r x
    simp only [minO, Option.some.injEq]
    constructor
    · rintro rfl
      refine ⟨?_, fun y hy => ?_⟩
      · rcases c with c | c
        · rw [c]; simp
        · simp [c]
      · rcases List.mem_cons.mp hy with rfl | hy
        · exact a
        · exact b y hy
    · rintro ⟨h1, h2⟩
      have g1 : least x r ≤ m := by
        rcases List.mem_cons.mp h1 with rfl | h1
        · exact a
        · exact b m h1
      have g2 : m ≤ least x r := by
        rcases c with c | c
        · rw [c]; exact h2 x (by simp)
        · exact h2 _ (by simp [c])
      omega
theorem minO_none {l : List Int} : minO l = none ↔ l = [] := by
  cases l <;> simp [minO]
/-- what the begins give -/
def cands (L : Nat → Nat → Int) (fd : List (Option Int)) (e : Nat) (bs : List Nat) : List Int := bs.filterMap fun b => (fd.getD b none).map (· + L b e)
def G (L : Nat → Nat → Int) (bg : Nat → List Nat) : Nat → List (Option Int)
  | 0 => [some 0]
  | k + 1 => G L bg k ++ [minO (cands L (G L bg k) (k + 1) (bg (k + 1)))]
def F (L : Nat → Nat → Int) (bg : Nat → List Nat) (k : Nat) : Option Int := (G L bg k).getD k none
variable {L : Nat → Nat → Int} {bg : Nat → List Nat}
theorem G_len : ∀ k, (G L bg k).length = k + 1
  | 0 => rfl
  | k + 1 => by rw [G, List.length_append, G_len k]; rfl
theorem G_at : ∀ k j, j ≤ k → (G L bg k).getD j none = F L bg j
  | 0, j, h => by
    have : j = 0 := by omega
    subst this; rfl
  | k + 1, j, h => by
    by_cases e : j = k + 1
    · subst e; rfl
    · rw [G, List.getD_eq_getElem?_getD, List.getElem?_append_left (by rw [G_len]; omega), ← List.getD_eq_getElem?_getD, G_at k j (by omega)]
theorem G_eq (k : Nat) : G L bg k = (List.range (k + 1)).map (F L bg) := by
  apply List.ext_getElem?
  intro j
  by_cases h : j ≤ k
  · have := G_at (L := L) (bg := bg) k j h
    rw [List.getD_eq_getElem?_getD] at this
    rw [List.getElem?_map, List.getElem?_range (by omega)]
    have lt : j < (G L bg k).length := by rw [G_len]; omega
    rw [List.getElem?_eq_getElem lt] at this ⊢
    simpa using this
  · rw [List.getElem?_eq_none (by rw [G_len]; omega), List.getElem?_eq_none (by simp; omega)]
theorem F_zero : F L bg 0 = some 0 := rfl
theorem F_succ (k : Nat) : F L bg (k + 1) = minO (cands L (G L bg k) (k + 1) (bg (k + 1))) := by
  unfold F
  rw [G, List.getD_eq_getElem?_getD, List.getElem?_append_right (by rw [G_len]; omega), G_len]; simp
theorem mem_cands {fd : List (Option Int)} {e : Nat} {bs : List Nat} {x : Int} : x ∈ cands L fd e bs ↔ ∃ b ∈ bs, ∃ c, fd.getD b none = some c ∧ x = c + L b e := by
  unfold cands
  rw [List.mem_filterMap]
  constructor
  · rintro ⟨b, hb, h⟩
    obtain ⟨c, h1, h2⟩ := Option.map_eq_some_iff.mp h
    exact ⟨b, hb, c, h1, h2.symm⟩
  · rintro ⟨b, hb, c, h1, h2⟩
    exact ⟨b, hb, by rw [h1, h2]; rfl⟩
/-- the least of all: a begin is there, and none gives less -/
theorem F_some {e : Nat} {m : Int} (hb : ∀ b ∈ bg (e + 1), b ≤ e) : F L bg (e + 1) = some m ↔ (∃ b ∈ bg (e + 1), ∃ c, F L bg b = some c ∧ m = c + L b (e + 1)) ∧ ∀ b ∈ bg (e + 1), ∀ c, F L bg b = some c → m ≤ c + L b (e + 1) := by
  rw [F_succ, minO_some, mem_cands]
  constructor
  · rintro ⟨⟨b, h1, c, h2, h3⟩, h4⟩
    refine ⟨⟨b, h1, c, by rw [← G_at e b (hb b h1)]; exact h2, h3⟩, fun b' h c' hc => h4 _ (mem_cands.mpr ⟨b', h, c', ?_, rfl⟩)⟩
    rw [G_at e b' (hb b' h)]; exact hc
  · rintro ⟨⟨b, h1, c, h2, h3⟩, h4⟩
    refine ⟨⟨b, h1, c, by rw [G_at e b (hb b h1)]; exact h2, h3⟩, fun x hx => ?_⟩
    obtain ⟨b', h, c', hc, rfl⟩ := mem_cands.mp hx
    exact h4 b' h c' (by rw [← G_at e b' (hb b' h)]; exact hc)
theorem F_none {e : Nat} (hb : ∀ b ∈ bg (e + 1), b ≤ e) : F L bg (e + 1) = none ↔ ∀ b ∈ bg (e + 1), F L bg b = none := by
  rw [F_succ, minO_none]
  constructor
  · intro h b hb'
    cases q : F L bg b with
    | none => rfl
    | some c =>
      have : c + L b (e + 1) ∈ cands L (G L bg e) (e + 1) (bg (e + 1)) := mem_cands.mpr ⟨b, hb', c, by rw [G_at e b (hb b hb')]; exact q, rfl⟩
      rw [h] at this; cases this
  · intro h
    cases q : cands L (G L bg e) (e + 1) (bg (e + 1)) with
    | nil => rfl
    | cons x r =>
      obtain ⟨b, h1, c, h2, _⟩ := mem_cands.mp (show x ∈ cands L (G L bg e) (e + 1) (bg (e + 1)) by rw [q]; simp)
      rw [G_at e b (hb b h1), h b h1] at h2; cases h2
/-- begins from some place on -/
def bgs (lo : Nat → Nat) (s : Nat) (e : Nat) : List Nat := (List.range (e + 1 - s - lo e)).map (lo e + ·)
theorem mem_bgs {lo : Nat → Nat} {s e b : Nat} : b ∈ bgs lo s e ↔ lo e ≤ b ∧ b + s ≤ e := by
  unfold bgs
  simp only [List.mem_map, List.mem_range]
  constructor
  · rintro ⟨k, h, rfl⟩; omega
  · intro h; exact ⟨b - lo e, by omega, by omega⟩
abbrev all0 : Nat → Nat := fun _ => 0
abbrev few (s : Nat) : Nat → Nat := fun e => e + 1 - 2 * s
/-- THE CUTS: a stretch of twice the size is no better than two -/
theorem few_all {n s : Nat} (hs : 0 < s) (sp : ∀ b m e, b < m → m < e → e ≤ n → L b m + L m e ≤ L b e) : ∀ e, e ≤ n → F L (bgs (few s) s) e = F L (bgs all0 s) e := by
  intro e
  induction e using Nat.strongRecOn with
  | ind e ih =>
    intro he
    cases e with
    | zero => rfl
    | succ e =>
      have i1 : ∀ lo, ∀ b ∈ bgs lo s (e + 1), b ≤ e := fun lo b hb => by have := mem_bgs.mp hb; omega
      -- a begin further on is as good
      have key : ∀ d b c, e + 1 - b = d → b + s ≤ e + 1 → F L (bgs all0 s) b = some c → ∃ b' c', b' ∈ bgs (few s) s (e + 1) ∧ F L (bgs all0 s) b' = some c' ∧ c' + L b' (e + 1) ≤ c + L b (e + 1) := by
        intro d
        induction d using Nat.strongRecOn with
        | ind d ihd =>
          intro b c hd hbs hc
          by_cases h : few s (e + 1) ≤ b
          · exact ⟨b, c, mem_bgs.mpr ⟨h, hbs⟩, hc, Int.le_refl _⟩
          · have h : b + 2 * s < e + 1 + 1 := by simp only [few] at h; omega
            have hm : b + s < e + 1 := by omega
            cases q : F L (bgs all0 s) (b + s) with
            | none =>
              obtain ⟨t, ht⟩ : ∃ t, b + s = t + 1 := ⟨b + s - 1, by omega⟩
              rw [ht] at q
              have := (F_none (L := L) (bg := bgs all0 s) (e := t) (fun b hb => by have := mem_bgs.mp hb; omega)).mp q b (mem_bgs.mpr ⟨Nat.zero_le _, by omega⟩)
              rw [hc] at this; cases this
            | some c2 =>
              obtain ⟨t, ht⟩ : ∃ t, b + s = t + 1 := ⟨b + s - 1, by omega⟩
              have q' := q
              rw [ht] at q'
              have le := ((F_some (L := L) (bg := bgs all0 s) (e := t) (fun b hb => by have := mem_bgs.mp hb; omega)).mp q').2 b (mem_bgs.mpr ⟨Nat.zero_le _, by omega⟩) c hc
              rw [← ht] at le
              have s1 := sp b (b + s) (e + 1) (by omega) (by omega) he
              obtain ⟨b', c', h1, h2, h3⟩ := ihd (e + 1 - (b + s)) (by omega) (b + s) c2 rfl (by omega) q
              exact ⟨b', c', h1, h2, by omega⟩
      cases q : F L (bgs all0 s) (e + 1) with
      | none =>
        have := (F_none (i1 _)).mp q
        refine (F_none (i1 _)).mpr fun b hb => ?_
        have hb' := mem_bgs.mp hb
        rw [ih b (by omega) (by omega)]
        exact this b (mem_bgs.mpr ⟨Nat.zero_le _, hb'.2⟩)
      | some m =>
        obtain ⟨⟨b, h1, c, h2, h3⟩, h4⟩ := (F_some (i1 _)).mp q
        refine (F_some (i1 _)).mpr ⟨?_, fun b' hb' c' hc' => ?_⟩
        · obtain ⟨b', c', g1, g2, g3⟩ := key _ b c rfl (mem_bgs.mp h1).2 h2
          have hb' := mem_bgs.mp g1
          refine ⟨b', g1, c', by rw [ih b' (by omega) (by omega)]; exact g2, ?_⟩
          have := h4 b' (mem_bgs.mpr ⟨Nat.zero_le _, hb'.2⟩) c' g2
          omega
        · have hb'' := mem_bgs.mp hb'
          rw [ih b' (by omega) (by omega)] at hc'
          exact h4 b' (mem_bgs.mpr ⟨Nat.zero_le _, hb''.2⟩) c' hc'
/-- greater sizes lose no less -/
theorem F_mono {s t : Nat} (hs : 0 < s) (hst : s ≤ t) : ∀ e m, F L (bgs all0 t) e = some m → ∃ m', F L (bgs all0 s) e = some m' ∧ m' ≤ m := by
  intro e
  induction e using Nat.strongRecOn with
  | ind e ih =>
    intro m hm
    cases e with
    | zero => exact ⟨m, hm, Int.le_refl _⟩
    | succ e =>
      have i1 : ∀ s, 0 < s → ∀ b ∈ bgs all0 s (e + 1), b ≤ e := fun s h b hb => by have := mem_bgs.mp hb; omega
      obtain ⟨⟨b, h1, c, h2, h3⟩, h4⟩ := (F_some (i1 t (by omega))).mp hm
      have hb := mem_bgs.mp h1
      obtain ⟨c', g1, g2⟩ := ih b (by omega) c h2
      have hb' : b ∈ bgs all0 s (e + 1) := mem_bgs.mpr ⟨Nat.zero_le _, by omega⟩
      cases q : F L (bgs all0 s) (e + 1) with
      | none => have := (F_none (i1 s hs)).mp q b hb'; rw [g1] at this; cases this
      | some m' =>
        have := ((F_some (i1 s hs)).mp q).2 b hb' c' g1
        exact ⟨m', rfl, by omega⟩
/-- there are crowds, and how much they lose at most -/
theorem F_whole {s e : Nat} (hs : 0 < s) (h : s ≤ e) : ∃ m, F L (bgs all0 s) e = some m ∧ m ≤ L 0 e := by
  obtain ⟨e, rfl⟩ : ∃ t, e = t + 1 := ⟨e - 1, by omega⟩
  have i1 : ∀ b ∈ bgs all0 s (e + 1), b ≤ e := fun b hb => by have := mem_bgs.mp hb; omega
  have hb' : 0 ∈ bgs all0 s (e + 1) := mem_bgs.mpr ⟨Nat.zero_le _, by omega⟩
  cases q : F L (bgs all0 s) (e + 1) with
  | none => have := (F_none i1).mp q 0 hb'; rw [F_zero] at this; cases this
  | some m' =>
    have := ((F_some i1).mp q).2 0 hb' 0 F_zero
    exact ⟨m', rfl, by omega⟩
theorem F_few {s e : Nat} (hs : 0 < s) (h0 : 0 < e) (h : e < s) : F L (bgs all0 s) e = none := by
  obtain ⟨e, rfl⟩ : ∃ t, e = t + 1 := ⟨e - 1, by omega⟩
  exact (F_none (fun b hb => by have := mem_bgs.mp hb; omega)).mpr fun b hb => by have := mem_bgs.mp hb; omega
theorem F_nonneg {s n : Nat} (hs : 0 < s) (hL : ∀ b e, b < e → e ≤ n → 0 ≤ L b e) : ∀ e m, e ≤ n → F L (bgs all0 s) e = some m → 0 ≤ m := by
  intro e
  induction e using Nat.strongRecOn with
  | ind e ih =>
    intro m he hm
    cases e with
    | zero => rw [F_zero] at hm; cases hm; exact Int.le_refl _
    | succ e =>
      obtain ⟨⟨b, h1, c, h2, h3⟩, h4⟩ := (F_some (fun b hb => by have := mem_bgs.mp hb; omega)).mp hm
      have hb := mem_bgs.mp h1
      have := ih b (by omega) c (by omega) h2
      have := hL b (e + 1) (by omega) he
      omega
/-! ## ways -/
def wyc (L : Nat → Nat → Int) (s e b : Nat) : Bool := (F L (bgs all0 s) b).isSome && decide ((F L (bgs all0 s) b).map (· + L b e) = F L (bgs all0 s) e)
def Wy (L : Nat → Nat → Int) (s : Nat) : Nat → List Int
  | 0 => [1]
  | k + 1 => Wy L s k ++ [(((List.range (k + 2 - s)).filter (wyc L s (k + 1))).map fun b => (Wy L s k).getD b 0).sum]
theorem Wy_len {s : Nat} : ∀ k, (Wy L s k).length = k + 1
  | 0 => rfl
  | k + 1 => by rw [Wy, List.length_append, Wy_len k]; rfl
def wy (L : Nat → Nat → Int) (s k : Nat) : Int := (Wy L s k).getD k 0
theorem Wy_at {s : Nat} : ∀ k j, j ≤ k → (Wy L s k).getD j 0 = wy L s j
  | 0, j, h => by
    have : j = 0 := by omega
    subst this; rfl
  | k + 1, j, h => by
    by_cases e : j = k + 1
    · subst e; rfl
    · rw [Wy, List.getD_eq_getElem?_getD, List.getElem?_append_left (by rw [Wy_len]; omega), ← List.getD_eq_getElem?_getD, Wy_at k j (by omega)]
theorem wy_zero {s : Nat} : wy L s 0 = 1 := rfl
theorem wy_succ {s : Nat} (hs : 0 < s) (k : Nat) : wy L s (k + 1) = (((List.range (k + 2 - s)).filter (wyc L s (k + 1))).map (wy L s)).sum := by
  unfold wy
  rw [Wy, List.getD_eq_getElem?_getD, List.getElem?_append_right (by rw [Wy_len]; omega), Wy_len]
  simp only [Nat.sub_self, List.getElem?_cons_zero, Option.getD_some]
  congr 1
  refine List.map_congr_left fun b hb => ?_
  have := (List.mem_filter.mp hb).1
  rw [List.mem_range] at this
  exact Wy_at k b (by omega)
theorem sum_le_all {f : Nat → Int} {c : Nat → Bool} (h : ∀ b, 0 ≤ f b) : ∀ m, 0 ≤ (((List.range m).filter c).map f).sum ∧ (((List.range m).filter c).map f).sum ≤ ((List.range m).map f).sum
  | 0 => by simp
  | m + 1 => by
    obtain ⟨h1, h2⟩ := sum_le_all (c := c) h m
    have := h m
    rw [List.range_succ, List.filter_append, List.map_append, List.map_append, List.sum_append, List.sum_append]
    by_cases q : c m = true <;> simp [q] <;> omega
theorem sum_pow {f : Nat → Int} : ∀ m, (∀ b, b < m → f b ≤ 2 ^ b) → ((List.range m).map f).sum ≤ 2 ^ m - 1
  | 0, _ => by simp
  | m + 1, h => by
    have := sum_pow m fun b hb => h b (by omega)
    have := h m (by omega)
    rw [List.range_succ, List.map_append, List.sum_append, Int.pow_succ]
    simp
    omega
theorem wy_bound {s : Nat} (hs : 0 < s) : ∀ k, 0 ≤ wy L s k ∧ wy L s k ≤ 2 ^ k := by
  intro k
  induction k using Nat.strongRecOn with
  | ind k ih =>
    cases k with
    | zero => rw [wy_zero]; decide
    | succ k =>
      rw [wy_succ hs]
      have e : ((List.range (k + 2 - s)).filter (wyc L s (k + 1))).map (wy L s) = ((List.range (k + 2 - s)).filter (wyc L s (k + 1))).map fun b => if b ≤ k then wy L s b else 0 := by
        refine List.map_congr_left fun b hb => ?_
        have := (List.mem_filter.mp hb).1
        rw [List.mem_range] at this
        rw [if_pos (by omega)]
      rw [e]
      have h0 : ∀ b, 0 ≤ (if b ≤ k then wy L s b else 0) := fun b => by
        split
        · exact (ih b (by omega)).1
        · exact Int.le_refl _
      obtain ⟨h1, h2⟩ := sum_le_all (c := wyc L s (k + 1)) h0 (k + 2 - s)
      have h3 : ((List.range (k + 2 - s)).map fun b => if b ≤ k then wy L s b else 0).sum ≤ 2 ^ (k + 2 - s) - 1 := sum_pow _ fun b hb => by rw [if_pos (by omega)]; exact (ih b (by omega)).2
      have h4 : (2 : Int) ^ (k + 2 - s) ≤ 2 ^ (k + 1) := by
        have := Nat.pow_le_pow_right (n := 2) (by decide) (show k + 2 - s ≤ k + 1 by omega)
        exact_mod_cast this
      exact ⟨h1, by omega⟩
end LineM
set_option linter.all false
namespace LineM
/-! ## whose loss is least -/
def DD (r : Nat → Int) (b e : Nat) (c : Int) : Int := D r c e - D r c b
theorem mul_pos' {k : Int} {d : Int} (h : 0 < k) (h2 : 0 < d) : 0 < k * d := Int.mul_pos h h2
theorem DD_split {r : Nat → Int} {n : Nat} (up : ∀ i j, i ≤ j → j < n → r i ≤ r j) {b k l : Nat} {c : Int} (h1 : ∀ i, b ≤ i → i < b + k → r i ≤ c) (h2 : ∀ i, b + k ≤ i → i < b + k + l → c ≤ r i) :
    DD r b (b + k + l) c = ((k : Int) - l) * c - (P r (b + k) - P r b) + (P r (b + k + l) - P r (b + k)) := by
  have a := D_low_eq (r := r) (c := c) (b := b) k h1
  have d := D_high_eq (r := r) (c := c) (b := b + k) l h2
  unfold DD
  rw [Int.sub_mul]
  omega
theorem DD_ge {r : Nat → Int} {b k l : Nat} {c : Int} : ((k : Int) - l) * c - (P r (b + k) - P r b) + (P r (b + k + l) - P r (b + k)) ≤ DD r b (b + k + l) c := by
  have a := D_low (r := r) (c := c) (b := b) k
  have d := D_high (r := r) (c := c) (b := b + k) l
  unfold DD
  rw [Int.sub_mul]
  omega
theorem DD_high {r : Nat → Int} {n : Nat} (up : ∀ i j, i ≤ j → j < n → r i ≤ r j) {b e : Nat} (hb : b < e) (he : e ≤ n) : DD r b e (r (b + (e - b) / 2)) = loss r b e := by
  rw [loss_dev up hb he, show (b + e) / 2 = b + (e - b) / 2 by omega]; rfl
theorem DD_low {r : Nat → Int} {n : Nat} (up : ∀ i j, i ≤ j → j < n → r i ≤ r j) {b e : Nat} (hb : b < e) (he : e ≤ n) : DD r b e (r (b + (e - b - 1) / 2)) = loss r b e := by
  by_cases ho : (e - b) % 2 = 1
  · rw [show (e - b - 1) / 2 = (e - b) / 2 by omega]; exact DD_high up hb he
  · obtain ⟨k, hk⟩ : ∃ k, e - b = 2 * k := ⟨(e - b) / 2, by omega⟩
    have e1 : e = b + k + k := by omega
    subst e1
    rw [show b + (b + k + k - b - 1) / 2 = b + k - 1 by omega]
    rw [DD_split up (fun i h1 h2 => up i _ (by omega) (by omega)) (fun i h1 h2 => up _ i (by omega) (by omega))]
    unfold loss
    rw [show (b + (b + k + k)) / 2 = b + k by omega]
    rw [Int.sub_self, Int.zero_mul, show (((b + k : Nat) : Int)) - b - (((b + k + k : Nat) : Int) - ((b + k : Nat) : Int)) = 0 by omega, Int.mul_zero]
    omega
theorem DD_loss {r : Nat → Int} {b e : Nat} (hb : b < e) (c : Int) : loss r b e ≤ DD r b e c := loss_le hb c
theorem DD_under {r : Nat → Int} {n : Nat} (up : ∀ i j, i ≤ j → j < n → r i ≤ r j) {b e : Nat} (hb : b < e) (he : e ≤ n) {c : Int} (hc : c < r (b + (e - b - 1) / 2)) : loss r b e < DD r b e c := by
  rw [← DD_low up hb he]
  obtain ⟨k, hk⟩ : ∃ k, (e - b - 1) / 2 = k := ⟨_, rfl⟩
  obtain ⟨l, hl⟩ : ∃ l, e = b + k + l := ⟨e - b - k, by omega⟩
  rw [hk] at hc ⊢
  subst hl
  rw [DD_split up (fun i h1 h2 => up i _ (by omega) (by omega)) (fun i h1 h2 => up _ i (by omega) (by omega))]
  have := DD_ge (r := r) (b := b) (k := k) (l := l) (c := c)
  have h3 : 0 < ((l : Int) - k) * (r (b + k) - c) := Int.mul_pos (by omega) (by omega)
  rw [Int.mul_sub, Int.sub_mul, Int.sub_mul] at h3
  rw [Int.sub_mul] at this ⊢
  omega
theorem DD_over {r : Nat → Int} {n : Nat} (up : ∀ i j, i ≤ j → j < n → r i ≤ r j) {b e : Nat} (hb : b < e) (he : e ≤ n) {c : Int} (hc : r (b + (e - b) / 2) < c) : loss r b e < DD r b e c := by
  rw [← DD_high up hb he]
  obtain ⟨k, hk⟩ : ∃ k, (e - b) / 2 = k := ⟨_, rfl⟩
  obtain ⟨l, hl⟩ : ∃ l, e = b + (k + 1) + l := ⟨e - b - (k + 1), by omega⟩
  rw [hk] at hc ⊢
  subst hl
  rw [DD_split up (fun i h1 h2 => up i _ (by omega) (by omega)) (fun i h1 h2 => up _ i (by omega) (by omega))]
  have := DD_ge (r := r) (b := b) (k := k + 1) (l := l) (c := c)
  have h3 : 0 < (((k + 1 : Nat) : Int) - l) * (c - r (b + k)) := Int.mul_pos (by omega) (by omega)
  rw [Int.mul_sub, Int.sub_mul, Int.sub_mul] at h3
  rw [Int.sub_mul] at this ⊢
  omega
end LineM
set_option Elab.async false
set_option linter.all false
set_option maxRecDepth 100000
set_option maxHeartbeats 4000000
namespace LW
open PySem L2 VL
def Pot (n : Nat) (w : W) : Prop := ∃ a b c : Int, w = .lst .own [.int a, .int b, .int c] ∧ 0 ≤ a ∧ a < 10 ^ 300 ∧ 0 ≤ b ∧ b < 2 ^ 61 ∧ 0 ≤ c ∧ c ≤ n
theorem Pot.mono {n m : Nat} {w : W} (h : Pot n w) (l : n ≤ m) : Pot m w := by
  obtain ⟨a, b, c, e, h1, h2, h3, h4, h5, h6⟩ := h
  exact ⟨a, b, c, e, h1, h2, h3, h4, h5, by omega⟩
theorem Pot.lst {n : Nat} {w : W} (h : Pot n w) : w.lnt? = false ∧ w.own? = true := by
  obtain ⟨a, b, c, rfl, _⟩ := h
  simp
theorem take_spec {n : Nat} {w : W} {u : Int} (hp : Pot n w) (hn : n < 2 ^ 60) (hu : 0 < u) (hu2 : u < 2 ^ 1000) : (F_law_take.run [w, .int u]).wp (fun d bs => ∃ i w', d = .int i ∧ 0 ≤ i ∧ i < u ∧ bs = [some w', none] ∧ Pot (n + 1) w') noX := by
  obtain ⟨a, b, c, rfl, h1, h2, h3, h4, h5, h6⟩ := hp
  with_reducible refine wp_law_take ?_
  simp [ir_law_take]
  by_cases h : 0 < a
  · simp [h]
    exact ⟨hu, ⟨hu, lt2_log (k := 1000) (lt2_of (by omega) hu2) (by omega) (by omega)⟩, (mod_pos hu).1, (mod_pos hu).2, _, _, _, rfl, (div_le h1 hu).1, by have := (div_le h1 hu).2; omega, h3, h4, h5, by omega⟩
  · have m5 := mod_pos (i := c + 1) (u := 5) (by omega)
    obtain ⟨w, hw, hq⟩ := atI_in (ws := [W.int 2147483647, W.int 2147483629, W.int 2147483587, W.int 2147483579, W.int 2147483563]) m5.1 m5.2
    obtain ⟨p, rfl, hp1, hp2⟩ : ∃ p, w = .int p ∧ 0 < p ∧ p < 2 ^ 31 := by
      simp only [List.mem_cons, List.not_mem_nil, or_false] at hw
      rcases hw with rfl | rfl | rfl | rfl | rfl <;> exact ⟨_, rfl, by decide, by decide⟩
    simp [h, hq]
    have l1 : lt2 62 (c + 1) := lt2_of (by omega) (by omega)
    have l2 : lt2 20 (108187 : Int) := by decide
    have l3 := lt2_mul l2 l1
    have l4 := lt2_mul l3 l1
    have l5 : lt2 146 (b + 108187 * (c + 1) * (c + 1) + 1301) := lt2_add (lt2_add (lt2_mono (lt2_of (k := 61) (by omega) h4) (by omega)) l4) (lt2_of (by omega) (by omega))
    have l6 : lt2 31 ((b + 108187 * (c + 1) * (c + 1) + 1301) ^ 3 % p) := lt2_mod hp1 (lt2_of (by omega) hp2)
    have l7 : lt2 14 ((b + 108187 * (c + 1) * (c + 1) + 1301) ^ 3 % p % 10009) := lt2_mod (by omega) (by decide)
    have l8 : lt2 7 (89 : Int) := by decide
    have l9 := lt2_mul l8 l1
    exact ⟨lt2_log2 l2 l1 (by omega) (by omega), lt2_log2 l3 l1 (by omega) (by omega), lt2_log l5 (by omega) (by omega), hp1, lt2_log2 l8 l1 (by omega) (by omega), lt2_log2 l6 (lt2_add (lt2_mono l7 (by omega)) l9) (by omega) (by omega), by decide +kernel, hu, (mod_pos hu).1, (mod_pos hu).2, _, _, _, rfl, h1, h2, h3, h4, by omega, by omega⟩
theorem of_spec {n : Nat} {w : W} {m : Fl} {ws : List W} (hp : Pot n w) (hn : n < 2 ^ 60) (h0 : 0 < ws.length) (h1 : ws.length < 2 ^ 30) (hw : ∀ x ∈ ws, x.has Fl.isLnt = false) : (F_law_of.run [w, .lst m ws]).wp (fun d bs => ∃ w', d ∈ ws ∧ bs = [some w', none] ∧ Pot (n + 1) w') noX := by
  have := hp.lst
  with_reducible refine wp_law_of ?_
  simp [ir_law_of, this]
  refine R.wp_of (take_spec hp hn (by omega) (by omega)) ?_
  rintro d bs ⟨i, w', rfl, h2, h3, rfl, hp'⟩
  obtain ⟨y, hy, e⟩ := atI_in (ws := ws) h2 h3
  simp [e, hw y hy]
  exact ⟨hy, hp'⟩
theorem ite01 (p : Prop) [Decidable p] : (if p then (1 : Int) else 0) = 0 ∨ (if p then (1 : Int) else 0) = 1 := by split <;> simp
theorem pot_spec {ns : List Int} {p : Nat} (hp : p < 4) : (F_law_pot.run [.lst .frz (ns.map W.int), .int p]).wp (fun w bs => Pot 0 w ∧ bs = [none, none]) noX := by
  have lp : lt2 2 (p : Int) := lt2_of (by omega) (by omega)
  with_reducible refine wp_law_pot ?_
  simp [ir_law_pot]
  refine R.wp_of (Q := fun a env => ∃ c : Int, a = .int c ∧ env = [none, none, none, none, none]) ?_ ?_
  · by_cases h : p < ns.length
    · simp [h]
    · simp [h, slcF, cutW, ← List.map_drop, ← List.map_take]
      exact lt2_log2 (i := (9241 : Int)) (k := 14) (by decide) lp (by omega) (by omega)
  · rintro _ _ ⟨c, rfl, rfl⟩
    have m1 := mod_pos (i := if c < 0 then -c else c) (u := 10 ^ 300) (by decide)
    have m2 := mod_pos (i := c) (u := 2305843009213693951) (by decide)
    have m3 := mod_pos (i := c % 2305843009213693951 * 91183 + 9931 * ↑p * ↑p + 1297) (u := 2305843009213693921) (by decide)
    have l0 : lt2 61 (c % 2305843009213693951) := lt2_mod (by omega) (by decide)
    have l1 : lt2 1000 ((if c < 0 then -c else c) % 10 ^ 300) := lt2_mod (by decide) (by decide +kernel)
    have l2 : lt2 1 (if 1000000000000000000 ≤ if c < 0 then -c else c then 1 else 0) := by rcases ite01 (1000000000000000000 ≤ if c < 0 then -c else c) with h | h <;> rw [h] <;> decide
    have l3 : lt2 14 (9931 : Int) := by decide
    have b1 : 0 ≤ (if c < 0 then -c else c) % 10 ^ 300 * (if 1000000000000000000 ≤ if c < 0 then -c else c then 1 else 0) ∧ (if c < 0 then -c else c) % 10 ^ 300 * (if 1000000000000000000 ≤ if c < 0 then -c else c then 1 else 0) < 10 ^ 300 := by
      generalize (if c < 0 then -c else c) % 10 ^ 300 = x at m1
      rcases ite01 (1000000000000000000 ≤ if c < 0 then -c else c) with h | h <;> rw [h] <;> simp <;> omega
    simp
    exact ⟨by decide +kernel, by decide +kernel, by decide +kernel, lt2_log2 l1 l2 (by omega) (by omega), lt2_log2 l0 (j := (91183 : Int)) (l := 17) (by decide) (by omega) (by omega), lt2_log2 (i := (9931 : Int)) l3 lp (by omega) (by omega),
      lt2_log2 (lt2_mul l3 lp) lp (by omega) (by omega), _, _, _, rfl, b1.1, b1.2, m3.1, by omega, by decide, by decide⟩
theorem cells_spec {ns : List Int} {m : Nat} (hm : 1 ≤ m) (hm2 : m ≤ 60) : ∃ k, k ≤ m ∧ F_law_cells.run [.lst .frz (ns.map W.int), .int m] = .ok (.lst .own (tabI k fun i => i)) [none, none] := by
  refine ⟨(max 1 (min m ns.length)), by omega, R.eq_of_wp (wp_law_cells ?_)⟩
  simp [ir_law_cells]
  generalize ns.length = k
  have : (if (1 : Int) < if k < m then (k : Int) else m then if k < m then (k : Int) else m else 1) = ((max 1 (min m k) : Nat) : Int) := by split <;> split <;> omega
  rw [this]
  refine ⟨by omega, by simp⟩
theorem is_integer_eq {i : Int} : F_is_integer.run [.int i] = .ok (.bl true) [none] := by
  with_reducible refine VL.R.eq_of_wp (wp_is_integer ?_)
  simp [ir_is_integer, isinF]
theorem is_within_eq {i a b : Int} : F_is_within.run [.int i, .int a, .int b] = .ok (.bl (decide (a ≤ i) && decide (i ≤ b))) [none, none, none] := by
  with_reducible refine VL.R.eq_of_wp (wp_is_within ?_)
  simp [ir_is_within, is_integer_eq]
  by_cases h : a ≤ i <;> simp [h]
theorem is_line_value_eq {i : Int} : F_is_line_value.run [.int i] = .ok (.bl (decide (-1000000 ≤ i) && decide (i ≤ 1000000))) [none] := by
  with_reducible refine VL.R.eq_of_wp (wp_is_line_value ?_)
  simp [ir_is_line_value, is_within_eq]
/-- the values' row, and its sums -/
abbrev Ln (m : Fl) (n : Nat) (r : Nat → Int) : W := .ins m 0 [(0, .lst .frz (tabI n r)), (1, .lst m (tabI (n + 1) (LineM.P r)))]
theorem P_lt {n : Nat} {r : Nat → Int} (hr : ∀ k, k < n → lt2 21 (r k)) (hn : n ≤ 201) {k : Nat} (hk : k ≤ n) : lt2 30 (LineM.P r k) := by
  have : ∀ k, k ≤ n → (LineM.P r k).natAbs ≤ k * 2 ^ 21 := by
    intro k
    induction k with
    | zero => intro _; simp [LineM.P]
    | succ k ih =>
      intro h
      have h1 := ih (by omega)
      have h2 : (r k).natAbs < 2 ^ 21 := hr k (by omega)
      have h3 := Int.natAbs_add_le (LineM.P r k) (r k)
      rw [LineM.P, Nat.succ_mul]
      omega
  have := this k hk
  unfold lt2
  have : k * 2 ^ 21 ≤ 201 * 2 ^ 21 := Nat.mul_le_mul_right _ (by omega)
  omega
theorem loss_eq {m m' : Fl} {n : Nat} {r : Nat → Int} (hr : ∀ k, k < n → lt2 21 (r k)) (hn : n ≤ 201) {b e : Nat} (hb : b < e) (he : e ≤ n) :
    F_Line_loss.run [Ln m n r, .int b, .int e] = .ok (.int (LineM.loss r b e)) [none, none, none] := by
  with_reducible refine VL.R.eq_of_wp (wp_Line_loss ?_)
  unfold LineM.loss
  generalize hk : (b + e) / 2 = m
  have hm : ((b : Int) + e) / 2 = (m : Int) := by omega
  simp [ir_Line_loss, hm, tabW_at (show m < n by omega), tabW_at (show m < n + 1 by omega), tabW_at (show b < n + 1 by omega), tabW_at (show e < n + 1 by omega)]
  have lm : lt2 8 (m : Int) := lt2_of (by omega) (by omega)
  exact ⟨by decide +kernel, lt2_log2 (k := 21) (l := 12) (j := (m : Int) - b - (e - m)) (hr m (by omega)) (lt2_of (by omega) (by omega)) (by omega) (by omega)⟩
theorem init_eq {n : Nat} {r : Nat → Int} {ns : List Int} (hs : (sortI ns).map W.int = tabI n r) (hn : n ≤ 201) : F_Line_init.run [.ins .own 0 [], .tup (ns.map W.int)] = .ok .non [some (Ln .own n r), none] := by
  with_reducible refine VL.R.eq_of_wp (wp_Line_init ?_)
  simp [ir_Line_init, hs, frzP]
  refine forL_wp (fun k ro env => ro = [none, some (.tup (ns.map W.int)), none] ∧ ∃ o, env = [some (.ins .own 0 [(0, .lst .frz (tabI n r)), (1, .lst .own (tabI (k + 1) (LineM.P r)))]), none, o]) ⟨rfl, none, by simp [tabW_one, LineM.P]⟩ ?_ ?_
  · rintro k x ro env hx ⟨rfl, o, rfl⟩
    obtain ⟨hk, rfl⟩ := tabW_in hx
    simp
    exact ⟨by omega, tabW_app (by rw [LineM.P])⟩
  · rintro ro env ⟨rfl, o, rfl⟩
    simp
abbrev FA (r : Nat → Int) (s : Nat) := LineM.F (LineM.loss r) (LineM.bgs LineM.all0 s)
abbrev FP (r : Nat → Int) (s : Nat) := LineM.F (LineM.loss r) (LineM.bgs (LineM.few s) s)
theorem least_eq : ∀ (r : List Int) (m : Int), leastI m r = LineM.least m r
  | [], m => rfl
  | x :: r, m => by rw [leastI, LineM.least, least_eq]
theorem bgs_all (s k : Nat) : LineM.bgs LineM.all0 s (k + 1) = List.range (k + 2 - s) := by
  unfold LineM.bgs
  rw [show k + 1 + 1 - s - 0 = k + 2 - s from rfl]
  simp
/-- what the first j begins give -/
def csA (r : Nat → Int) (s k j : Nat) : List Int := (List.range j).filterMap fun b => (FA r s b).map (· + LineM.loss r b (k + 1))
theorem csA_all {r : Nat → Int} {s k : Nat} (hs : 0 < s) : LineM.cands (LineM.loss r) (LineM.G (LineM.loss r) (LineM.bgs LineM.all0 s) k) (k + 1) (LineM.bgs LineM.all0 s (k + 1)) = csA r s k (k + 2 - s) := by
  unfold LineM.cands csA
  rw [bgs_all]
  refine fm_congr fun b hb => ?_
  rw [List.mem_range] at hb
  rw [LineM.G_at k b (by omega)]
theorem FA_succ {r : Nat → Int} {s k : Nat} (hs : 0 < s) : FA r s (k + 1) = LineM.minO (csA r s k (k + 2 - s)) := by
  rw [show FA r s (k + 1) = LineM.F (LineM.loss r) (LineM.bgs LineM.all0 s) (k + 1) from rfl, LineM.F_succ, csA_all hs]
/-- values, sorted -/
structure Row (ns : List Int) (n : Nat) (r : Nat → Int) : Prop where
  len : ns.length = n
  hsr : (sortI ns).map W.int = tabI n r
  hr : ∀ k, k < n → lt2 21 (r k)
  up : ∀ i j, i ≤ j → j < n → r i ≤ r j
  hn : n ≤ 201
theorem Row.mk' {ns : List Int} (h : ∀ x ∈ ns, lt2 21 x) (hl : ns.length ≤ 201) : Row ns ns.length fun k => (sortI ns).getD k 0 := by
  have hp := sortI_perm ns
  have hu := sortI_up ns
  have hl' := hp.length_eq
  have at_ : ∀ k (hk : k < (sortI ns).length), (sortI ns).getD k 0 = (sortI ns)[k] := fun k hk => by rw [List.getD_eq_getElem?_getD, List.getElem?_eq_getElem hk]; rfl
  refine ⟨rfl, by rw [ints_tab, hl'], fun k hk => ?_, fun i j hij hj => ?_, hl⟩
  · show lt2 21 ((sortI ns).getD k 0)
    rw [at_ k (by omega)]
    exact h _ (hp.mem_iff.mp (List.getElem_mem _))
  · show (sortI ns).getD i 0 ≤ (sortI ns).getD j 0
    rw [at_ i (by omega), at_ j (by omega)]
    by_cases e : i = j
    · subst e; exact Int.le_refl _
    · exact List.pairwise_iff_getElem.mp hu i j _ _ (by omega)
theorem loss_lt {n : Nat} {r : Nat → Int} (hr : ∀ k, k < n → lt2 21 (r k)) (hn : n ≤ 201) {b e : Nat} (hb : b < e) (he : e ≤ n) : lt2 34 (LineM.loss r b e) := by
  unfold LineM.loss
  generalize hk : (b + e) / 2 = m
  have h1 := P_lt hr hn (show b ≤ n by omega)
  have h2 := P_lt hr hn (show m ≤ n by omega)
  have h3 := P_lt hr hn he
  have h4 : lt2 33 (r m * ((m : Int) - b - (e - m))) := lt2_mul (k := 21) (l := 12) (hr m (by omega)) (lt2_of (by omega) (by omega))
  unfold lt2 at *
  omega
theorem Row.F_lt {ns : List Int} {n s : Nat} {r : Nat → Int} (R : Row ns n r) (hs : 0 < s) {e : Nat} {m : Int} (he : e ≤ n) (h : FA r s e = some m) : 0 ≤ m ∧ lt2 34 m := by
  have h0 : 0 ≤ m := LineM.F_nonneg hs (fun b e hb he => LineM.loss_nonneg R.up hb he) e m he h
  refine ⟨h0, ?_⟩
  cases e with
  | zero => have : some (0 : Int) = some m := h; cases this; decide
  | succ e =>
    by_cases hse : s ≤ e + 1
    · obtain ⟨m', h1, h2⟩ := LineM.F_whole (L := LineM.loss r) hs hse
      have : some m' = some m := h1.symm.trans h
      cases this
      have := loss_lt R.hr R.hn (show 0 < e + 1 by omega) he
      unfold lt2 at *
      omega
    · have := LineM.F_few (L := LineM.loss r) hs (show 0 < e + 1 by omega) (by omega)
      have := this.symm.trans h
      cases this
theorem Row.cs_lt {ns : List Int} {n s k j : Nat} {r : Nat → Int} (R : Row ns n r) (hs : 0 < s) (hk : k < n) (hj : j ≤ k + 1) : ∀ x ∈ csA r s k j, lt2 35 x := by
  intro x hx
  obtain ⟨b, hb, h⟩ := List.mem_filterMap.mp hx
  rw [List.mem_range] at hb
  obtain ⟨c, h1, rfl⟩ := Option.map_eq_some_iff.mp h
  exact lt2_add (R.F_lt hs (by omega) h1).2 (loss_lt R.hr R.hn (by omega) (by omega))
/-! ## the program's cuts -/
/-- begins from lo on, the first j of them: pairs of loss and begin -/
def prs (r : Nat → Int) (s k lo j : Nat) : List (Int × Int) := (List.range j).filterMap fun t => (FA r s (lo + t)).map fun c => (c + LineM.loss r (lo + t) (k + 1), ((lo + t : Nat) : Int))
def bestP : List (Int × Int) → Option (Int × Int)
  | [] => none
  | x :: q => some (leastP x q)
/-- the cut ahead of each place -/
def Ah (r : Nat → Int) (s : Nat) : Nat → Option Int
  | 0 => none
  | k + 1 => (bestP (prs r s k (k + 2 - 2 * s) (k + 2 - s - (k + 2 - 2 * s)))).map (·.2)
theorem Row.few {ns : List Int} {n s k : Nat} {r : Nat → Int} (R : Row ns n r) (hs : 0 < s) (hk : k ≤ n) : FP r s k = FA r s k := LineM.few_all (L := LineM.loss r) hs (fun b m e h1 h2 he => LineM.loss_split R.up h1 h2 he) k hk
theorem best_fst {ns : List Int} {n s k : Nat} {r : Nat → Int} (R : Row ns n r) (hs : 0 < s) (hk : k < n) : (bestP (prs r s k (k + 2 - 2 * s) (k + 2 - s - (k + 2 - 2 * s)))).map (·.1) = FA r s (k + 1) := by
  rw [← R.few hs (show k + 1 ≤ n by omega)]
  show _ = LineM.F (LineM.loss r) (LineM.bgs (LineM.few s) s) (k + 1)
  rw [LineM.F_succ]
  have e : (prs r s k (k + 2 - 2 * s) (k + 2 - s - (k + 2 - 2 * s))).map (·.1) = LineM.cands (LineM.loss r) (LineM.G (LineM.loss r) (LineM.bgs (LineM.few s) s) k) (k + 1) (LineM.bgs (LineM.few s) s (k + 1)) := by
    unfold prs LineM.cands LineM.bgs
    rw [List.map_filterMap, List.filterMap_map]
    refine fm_congr fun t ht => ?_
    rw [List.mem_range] at ht
    show Option.map _ (Option.map _ _) = Option.map _ ((LineM.G (LineM.loss r) (LineM.bgs (LineM.few s) s) k).getD (k + 2 - 2 * s + t) none)
    rw [LineM.G_at k _ (by omega), Option.map_map]
    show _ = Option.map _ (FP r s (k + 2 - 2 * s + t))
    rw [R.few hs (by omega)]
    rfl
  rw [← e]
  cases prs r s k (k + 2 - 2 * s) (k + 2 - s - (k + 2 - 2 * s)) with
  | nil => rfl
  | cons x q => show some (leastP x q).1 = some _; rw [leastP_fst, least_eq]
theorem cuts_eq {n s : Nat} {r : Nat → Int} {ns : List Int} {m : Fl} (R : Row ns n r) (hs : 0 < s) (hs2 : s ≤ 300) : F_Line_cuts.run [Ln m n r, .int s] = .ok (.tup [.lst .own (tabO (n + 1) (FA r s)), .lst .own (tabO (n + 1) (Ah r s))]) [none, none] := by
  have hr := R.hr
  have hn := R.hn
  with_reducible refine VL.R.eq_of_wp (wp_Line_cuts ?_)
  simp [ir_Line_cuts]
  refine ⟨by omega, ?_⟩
  refine forL_wp (fun k ro env => ro = [some (Ln m n r), some (.int s), none, none, none, none, none, none] ∧
    ∃ a b c d, env = [none, none, some (.lst .own (tabO (k + 1) (FA r s))), some (.lst .own (tabO (k + 1) (Ah r s))), a, b, c, d]) ⟨rfl, none, none, none, none, by simp [tabW_one, LineM.F_zero, Ah]⟩ ?_ ?_
  · rintro k x ro env hx ⟨rfl, a, b, c, d, rfl⟩
    obtain ⟨hk, rfl⟩ := tabW_in hx
    obtain ⟨lo, hlo⟩ : ∃ lo, k + 2 - 2 * s = lo := ⟨_, rfl⟩
    have ef : (if (0 : Int) < 1 + (k : Int) - 2 * s + 1 then 1 + (k : Int) - 2 * s + 1 else 0) = (lo : Int) := by split <;> omega
    have l1 : lt2 10 (s : Int) := lt2_of (by omega) (by omega)
    simp [ef]
    refine ⟨lt2_log2 (i := 2) (k := 2) (by decide) l1 (by omega) (by omega), by omega, ?_⟩
    have em : (1 + (k : Int) - s + 1).toNat - lo = k + 2 - s - lo := by omega
    rw [em]
    refine forL_wp (fun j ro env => ro = [some (Ln m n r), some (.int s), none, none, none, none, none, none] ∧
      ∃ c d, env = [none, none, some (.lst .own (tabO (k + 1) (FA r s))), some (.lst .own (tabO (k + 1) (Ah r s))), some (.int (1 + k)), some (.lst .own ((prs r s k lo j).map pairW)), c, d]) ⟨rfl, c, d, by simp [prs]⟩ ?_ ?_
    · rintro j x ro env hx ⟨rfl, c, d, rfl⟩
      obtain ⟨hj, rfl⟩ := tabW_in hx
      have e1 := fun m => @loss_eq m .lnt n r hr (by omega) (lo + j) (k + 1) (by omega) (by omega)
      rw [show (((k + 1 : Nat)) : Int) = 1 + (k : Int) by omega, show (((lo + j : Nat)) : Int) = (lo : Int) + (j : Int) by omega] at e1
      have hl : (prs r s k lo j).length ≤ j := by
        have := List.length_filterMap_le (fun t => (FA r s (lo + t)).map fun c => (c + LineM.loss r (lo + t) (k + 1), ((lo + t : Nat) : Int))) (List.range j)
        rw [List.length_range] at this; exact this
      have hc : prs r s k lo (j + 1) = prs r s k lo j ++ ((FA r s (lo + j)).map fun c => (c + LineM.loss r (lo + j) (k + 1), ((lo + j : Nat) : Int))).toList := fm_range_succ j
      have ha : atI (tabO (k + 1) (FA r s)) ((lo : Int) + (j : Int)) = some (wO (FA r s (lo + j))) := by
        rw [show (lo : Int) + (j : Int) = ((lo + j : Nat) : Int) by omega, atI_cast, tabW_at (by omega)]
      cases hF : FA r s (lo + j) with
      | none => simp [ha, hF, hc]
      | some v =>
        simp [ha, hF, hc, e1, pairW]
        omega
    · rintro ro env ⟨rfl, c, d, rfl⟩
      rw [tabW_len]
      have hF := best_fst (s := s) (k := k) R hs hk
      rw [hlo] at hF
      have hA : Ah r s (k + 1) = (bestP (prs r s k lo (k + 2 - s - lo))).map (·.2) := by rw [← hlo]; rfl
      cases hq : prs r s k lo (k + 2 - s - lo) with
      | nil =>
        rw [hq] at hF hA
        simp
        exact ⟨by omega, tabW_app (by rw [← hF]; rfl), tabW_app (by rw [hA]; rfl)⟩
      | cons y q =>
        rw [hq] at hF hA
        simp [minF_pairs]
        exact ⟨by omega, tabW_app (by rw [← hF]; rfl), tabW_app (by rw [hA]; rfl)⟩
  · rintro ro env ⟨rfl, a, b, c, d, rfl⟩
    simp
theorem least_prog_eq {n s : Nat} {r : Nat → Int} {ns : List Int} {m : Fl} (R : Row ns n r) (hs : 0 < s) (hs2 : s ≤ 300) : F_Line_least.run [Ln m n r, .int s] = .ok (wO (FA r s n)) [none, none] := by
  with_reducible refine VL.R.eq_of_wp (wp_Line_least ?_)
  simp [ir_Line_least, cuts_eq R hs hs2, tabW_at (show n < n + 1 by omega)]
theorem check_values_eq {ns : List Int} (h : ∀ x ∈ ns, -1000000 ≤ x ∧ x ≤ 1000000) (hl : ns.length ≤ 200) : F_check_values.run [.tup (ns.map W.int)] = .ok .non [none] := by
  with_reducible refine VL.R.eq_of_wp (wp_check_values ?_)
  rw [ints_tab]
  simp [ir_check_values, isinF, show ¬ (200 < (ns.length : Int)) by omega]
  refine comp_tab (fun _ => .bl true) (by omega) (fun k hk => ?_) ?_
  · have : -1000000 ≤ ns[k]?.getD 0 ∧ ns[k]?.getD 0 ≤ 1000000 := by
      rw [List.getElem?_eq_getElem hk]
      exact h _ (List.getElem_mem hk)
    simp [is_line_value_eq, this]
  · simp [blsOf_tab]
def vok (x : Int) : Prop := -1000000 ≤ x ∧ x ≤ 1000000
theorem of_ints {n : Nat} {w : W} {m : Fl} {ns : List Int} (hp : Pot n w) (hn : n < 2 ^ 60) (h0 : 0 < ns.length) (h1 : ns.length < 2 ^ 30) : (F_law_of.run [w, .lst m (ns.map W.int)]).wp (fun d bs => ∃ i w', d = .int i ∧ i ∈ ns ∧ bs = [some w', none] ∧ Pot (n + 1) w') noX := by
  refine R.wp_of (of_spec hp hn (by simpa using h0) (by simpa using h1) fun x hx => ?_) ?_
  · obtain ⟨z, _, rfl⟩ := List.mem_map.mp hx
    simp
  · rintro d bs ⟨w', hd, rfl, hp'⟩
    obtain ⟨z, hz, rfl⟩ := List.mem_map.mp hd
    exact ⟨z, w', rfl, hz, rfl, hp'⟩
theorem vok_log {x : Int} (h : vok x) : x.natAbs.log2 < 1920 := by
  unfold vok at h
  exact lt2_log (k := 21) (lt2_of (by omega) (by omega)) (by omega) (by omega)
theorem line_values_spec {N most : Nat} {w : W} (hp : Pot N w) (hN : N < 2 ^ 50) (hm : most ≤ 200) : (F_law_line_values.run [w, .int most]).wp (fun d bs => ∃ (vs : List Int) (w' : W), d = .tup (vs.map W.int) ∧ vs.length ≤ most ∧ (∀ x ∈ vs, vok x) ∧ bs = [some w', none] ∧ Pot (N + 500) w') noX := by
  have := hp.lst
  with_reducible refine wp_law_line_values ?_
  simp [ir_law_line_values, this]
  refine R.wp_of (take_spec hp (by omega) (by omega) (by omega)) ?_
  rintro _ _ ⟨a, w1, rfl, a0, a1, rfl, p1⟩
  simp [p1.lst]
  refine R.wp_of (take_spec p1 (by omega) (by omega) (by omega)) ?_
  rintro _ _ ⟨y, w2, rfl, y0, y1, rfl, p2⟩
  obtain ⟨a, rfl⟩ := Int.eq_ofNat_of_zero_le a0
  have hy : y = 0 ∨ y = 1 ∨ y = 2 ∨ y = 3 := by omega
  simp [p2.lst]
  refine ⟨by omega, ?_⟩
  refine comp_st (α := Int) (s0 := w2) W.int (fun w => [some w, none, some (.int a), some (.int y), none, none, none]) (fun k w => Pot (N + 2 + k) w) (fun x => vok x) p2 (by omega) (fun k w3 hk p3 => ?_) ?_
  · have := p3.lst
    rcases hy with rfl | rfl | rfl | rfl <;> simp [this] <;> refine R.wp_of (take_spec p3 (by omega) (by omega) (by omega)) ?_ <;>
    (rintro _ _ ⟨i, w4, rfl, i0, i1, rfl, p4⟩
     simp [p4.lst]
     exact ⟨by unfold vok; omega, p4⟩)
  intro some_ w3 hl hv p3
  simp [p3.lst]
  refine ⟨by omega, ?_⟩
  refine comp_st (α := Int) (s0 := w3) W.int (fun w => [some w, none, some (.int a), some (.int y), none, none, none]) (fun k w => Pot (N + 3 + a + k) w) (fun x => vok x) (p3.mono (by omega)) (by omega) (fun k w3 hk p3 => ?_) ?_
  · have := p3.lst
    simp [this]
    refine R.wp_of (of_ints p3 (by omega) (by omega) (by omega)) ?_
    rintro _ _ ⟨i, w4, rfl, hi, rfl, p4⟩
    simp [p4.lst]
    exact ⟨hv i hi, p4⟩
  intro found w3 hl2 hv2 p3
  have he := eq_nil (m := .lnt) (n := .own) (ws := found.map W.int) (fineL_ints fun x h => vok_log (hv2 x h)) (by rw [depL_ints]; omega)
  cases found with
  | nil =>
    simp at he
    simp [p3.lst, he]
    exact p3.mono (by simp at hl2; omega)
  | cons v vs =>
    simp at he
    simp [p3.lst, he]
    refine R.wp_of (take_spec p3 (by omega) (by omega) (by omega)) ?_
    rintro _ _ ⟨t, w4, rfl, t0, t1, rfl, p4⟩
    simp [p4.lst]
    by_cases ht : t = 0
    · simp [ht, p4.lst]
      have hof := of_ints (ns := [1000000, -1000000]) (m := .lnt) p4 (by omega) (by decide) (by decide)
      simp only [List.map_cons, List.map_nil] at hof
      refine ⟨by decide +kernel, R.wp_of hof ?_⟩
      rintro _ _ ⟨u, w5, rfl, hu, rfl, p5⟩
      simp [p5.lst]
      refine R.wp_of (take_spec p5 (by omega) (by simp at hl2; omega) (by omega)) ?_
      rintro _ _ ⟨j, w6, rfl, j0, j1, rfl, p6⟩
      obtain ⟨j, rfl⟩ := Int.eq_ofNat_of_zero_le j0
      have hj : j < vs.length + 1 := by simp at hl2; omega
      simp [p6.lst, hj]
      have e : (W.int v :: vs.map W.int).set j (W.int u) = ((v :: vs).set j u).map W.int := by rw [List.map_set]; rfl
      rw [e]
      simp only [mapL_ints, hasL_ints]
      refine ⟨trivial, trivial, _, rfl, by simp at hl2 ⊢; omega, fun x hx => ?_, p6.mono (by simp at hl2; omega)⟩
      rcases List.mem_or_eq_of_mem_set hx with hx | rfl
      · exact hv2 x hx
      · simp only [List.mem_cons, List.not_mem_nil, or_false] at hu
        rcases hu with rfl | rfl <;> unfold vok <;> omega
    · simp [ht, p4.lst]
      exact ⟨v :: vs, by simp, by simp at hl2 ⊢; omega, by simpa using hv2, p4.mono (by omega)⟩
/-! ## what the program tells -/
theorem check_size_eq {ns : List Int} {s : Int} (h : ∀ x ∈ ns, vok x) (hl : ns.length ≤ 200) (h1 : 1 ≤ s) (h2 : s ≤ 200) : F_check_size.run [.tup (ns.map W.int), .int s] = .ok .non [none, none] := by
  with_reducible refine VL.R.eq_of_wp (wp_check_size ?_)
  simp [ir_check_size, check_values_eq h hl, is_within_eq, h1, h2]
end LW
set_option Elab.async false
set_option linter.all false
set_option maxRecDepth 100000
set_option maxHeartbeats 4000000
namespace LW
open PySem L2 VL
theorem up_range {f : Nat → Int} : ∀ k, (∀ i j, i ≤ j → j < k → f i ≤ f j) → ((List.range k).map f).Pairwise (· ≤ ·) := fun k h => by
  rw [List.pairwise_map]
  refine List.Pairwise.imp_of_mem ?_ (List.pairwise_lt_range (n := k))
  intro a b ha hb hab
  exact h a b (by omega) (by simpa using hb)
theorem sort_tab {f : Nat → Int} {k : Nat} (h : ∀ i j, i ≤ j → j < k → f i ≤ f j) : (sortI ((List.range k).map f)).map W.int = tabI k f := by
  rw [← sortI_one (List.Perm.refl _) (up_range k h), tab_ints]
theorem sum_dd {r : Nat → Int} {b : Nat} {c : Int} : ∀ k, ((List.range k).map fun i => LineM.iabs (r (b + i) - c)).sum = LineM.DD r b (b + k) c
  | 0 => by simp [LineM.DD]
  | k + 1 => by
    have := sum_dd (r := r) (b := b) (c := c) k
    rw [List.range_succ, List.map_append, List.sum_append, this]
    unfold LineM.DD
    rw [← Nat.add_assoc, LineM.D]
    simp
    omega
theorem cut_tab {n b k : Nat} {f : Nat → W} (h : b + k ≤ n) : cutW (tabW n f) (some (b : Int)) (some ((b : Int) + k)) = tabW k fun i => f (b + i) := by
  unfold cutW
  have e1 : HT.sIx n 0 (some (b : Int)) = b := by rw [HT.sIx_nat]; omega
  have e2 : HT.sIx n n (some ((b : Int) + k)) = b + k := by rw [← Int.natCast_add, HT.sIx_nat]; omega
  rw [tabW_len, e1, e2]
  apply List.ext_getElem?
  intro i
  rw [List.getElem?_take]
  by_cases hi : i < k
  · rw [if_pos (by omega), List.getElem?_drop, tabW_at (by omega), tabW_at hi]
  · rw [if_neg (by omega), List.getElem?_eq_none (by simpa using hi)]
theorem crowd_cost_eq {m : Fl} {n : Nat} {r : Nat → Int} (up : ∀ i j, i ≤ j → j < n → r i ≤ r j) {b k : Nat} (hk : 0 < k) (he : b + k ≤ n) (hn : n ≤ 300) :
    F_law_crowd_cost.run [.lst m (tabI k fun i => r (b + i))] = .ok (.int (LineM.loss r b (b + k))) [none] := by
  with_reducible refine VL.R.eq_of_wp (wp_law_crowd_cost ?_)
  have hs : (sortI ((List.range k).map fun i => r (b + i))).map W.int = tabI k fun i => r (b + i) := sort_tab fun i j h1 h2 => up _ _ (by omega) (by omega)
  obtain ⟨q, hq⟩ : ∃ q, k / 2 = q := ⟨_, rfl⟩
  have hm : ((k : Int) / 2) = (q : Int) := by omega
  simp [ir_law_crowd_cost, hs]
  refine comp_tab (fun i => .int (LineM.iabs (r (b + i) - r (b + q)))) (by omega) (fun i hi => ?_) ?_
  · simp [hm, tabW_at (show q < k by omega), LineM.iabs]
    decide +kernel
  · simp
    rw [sum_dd, show b + q = b + (b + k - b) / 2 by omega, LineM.DD_high up (by omega) he]
end LW
set_option Elab.async false
set_option linter.all false
set_option maxRecDepth 100000
set_option maxHeartbeats 4000000
namespace LW
open PySem L2 VL
theorem cut_costs_eq {n s : Nat} {r : Nat → Int} {ns : List Int} (R : Row ns n r) (hs : 0 < s) (hs2 : s ≤ 300) :
    F_law_cut_costs.run [.tup (ns.map W.int), .int s] = .ok (.lst .own (tabO (n + 1) (FA r s))) [none, none] := by
  have hr := R.hr
  have hn := R.hn
  have hsr := R.hsr
  with_reducible refine VL.R.eq_of_wp (wp_law_cut_costs ?_)
  simp [ir_law_cut_costs, hsr]
  refine ⟨by omega, ?_⟩
  refine forL_wp (fun k ro env => ro = [some (.tup (ns.map W.int)), some (.int s), none, none, none, none, none] ∧
    ∃ a b c, env = [none, none, some (.lst .own (tabI n r)), some (.lst .own (tabO (k + 1) (FA r s))), a, b, c]) ⟨rfl, none, none, none, by simp [tabW_one, LineM.F_zero]⟩ ?_ ?_
  · rintro k x ro env hx ⟨rfl, a, b, c, rfl⟩
    obtain ⟨hk, rfl⟩ := tabW_in hx
    simp
    refine ⟨by omega, ?_⟩
    have em : (1 + (k : Int) - s + 1).toNat = k + 2 - s := by omega
    rw [em]
    refine forL_wp (fun j ro env => ro = [some (.tup (ns.map W.int)), some (.int s), none, none, none, none, none] ∧
      ∃ c, env = [none, none, some (.lst .own (tabI n r)), some (.lst .own (tabO (k + 1) (FA r s))), some (.int (1 + k)), some (.lst .own ((csA r s k j).map W.int)), c]) ⟨rfl, c, by simp [csA]⟩ ?_ ?_
    · rintro j x ro env hx ⟨rfl, c, rfl⟩
      obtain ⟨hj, rfl⟩ := tabW_in hx
      have hcut : cutW (tabI n r) (some (j : Int)) (some (1 + (k : Int))) = tabI (k + 1 - j) fun i => r (j + i) := by
        have := cut_tab (n := n) (b := j) (k := k + 1 - j) (f := fun i => .int (r i)) (by omega)
        rw [show (1 + (k : Int)) = (j : Int) + ((k + 1 - j : Nat) : Int) by omega]
        exact this
      have e1 := @crowd_cost_eq .own n r R.up j (k + 1 - j) (by omega) (by omega) (by omega)
      rw [show j + (k + 1 - j) = k + 1 by omega] at e1
      have hl : (csA r s k j).length ≤ j := by
        have := List.length_filterMap_le (fun b => (FA r s b).map (· + LineM.loss r b (k + 1))) (List.range j)
        rw [List.length_range] at this; exact this
      have hc : csA r s k (j + 1) = csA r s k j ++ ((FA r s j).map (· + LineM.loss r j (k + 1))).toList := fm_range_succ j
      have e2 := @crowd_cost_eq .lnt n r R.up j (k + 1 - j) (by omega) (by omega) (by omega)
      rw [show j + (k + 1 - j) = k + 1 by omega] at e2
      cases hF : FA r s j with
      | none => simp [tabW_at (show j < k + 1 by omega), hF, hc]
      | some v =>
        simp [tabW_at (show j < k + 1 by omega), hF, hc, hcut, e1, e2]
        omega
    · rintro ro env ⟨rfl, c, rfl⟩
      rw [tabW_len]
      have hx := R.cs_lt hs hk (show k + 2 - s ≤ k + 1 by omega)
      have he := eq_nil (m := .lnt) (n := .own) (ws := (csA r s k (k + 2 - s)).map W.int) (fineL_ints fun x h => lt2_log (hx x h) (by omega) (by omega)) (by rw [depL_ints]; omega)
      have hF := FA_succ (r := r) (k := k) hs
      cases hq : csA r s k (k + 2 - s) with
      | nil =>
        rw [hq] at he hF
        simp at he
        simp [he]
        exact ⟨by omega, tabW_app (by rw [hF]; rfl)⟩
      | cons y q =>
        rw [hq] at he hF
        simp at he
        simp [he, minF_ints]
        exact ⟨by omega, tabW_app (by rw [hF, least_eq]; rfl)⟩
  · rintro ro env ⟨rfl, a, b, c, rfl⟩
    simp
theorem law_least_eq {n s : Nat} {r : Nat → Int} {ns : List Int} (R : Row ns n r) (hs : 0 < s) (hs2 : s ≤ 300) : F_law_least.run [.tup (ns.map W.int), .int s] = .ok (wO (FA r s n)) [none, none] := by
  with_reducible refine VL.R.eq_of_wp (wp_law_least ?_)
  simp [ir_law_least, cut_costs_eq R hs hs2, tabW_at (show n < n + 1 by omega)]
theorem check_stretch_eq {n : Nat} {r : Nat → Int} {ns : List Int} (R : Row ns n r) (h : ∀ x ∈ ns, vok x) (hl : n ≤ 200) {b e : Nat} (hb : b < e) (he : e ≤ n) : F_check_stretch.run [.tup (ns.map W.int), .int b, .int e] = .ok .non [none, none, none] := by
  have hlen := R.len
  have h1 : ¬ ((ns.length : Int) - 1 < b) := by omega
  have h2 : (b : Int) + 1 ≤ e := by omega
  have h3 : e ≤ ns.length := by omega
  with_reducible refine VL.R.eq_of_wp (wp_check_stretch ?_)
  simp [ir_check_stretch, check_values_eq h (by omega), is_within_eq, h1, h2, h3]
theorem stretch_loss_eq {n : Nat} {r : Nat → Int} {ns : List Int} (R : Row ns n r) (h : ∀ x ∈ ns, vok x) (hl : n ≤ 200) {b e : Nat} (hb : b < e) (he : e ≤ n) : F_stretch_loss.run [.tup (ns.map W.int), .int b, .int e] = .ok (.int (LineM.loss r b e)) [none, none, none] := by
  have hlen := R.len
  have e0 := check_stretch_eq R h hl hb he
  with_reducible refine VL.R.eq_of_wp (wp_stretch_loss ?_)
  simp [ir_stretch_loss, e0, init_eq R.hsr R.hn, @loss_eq .lnt .lnt n r R.hr R.hn b e hb he]
theorem middles_eq {n : Nat} {r : Nat → Int} {ns : List Int} (R : Row ns n r) (h : ∀ x ∈ ns, vok x) (hl : n ≤ 200) {b e : Nat} (hb : b < e) (he : e ≤ n) : F_middles.run [.tup (ns.map W.int), .int b, .int e] = .ok (.tup [.int (r (b + (e - b - 1) / 2)), .int (r (b + (e - b) / 2))]) [none, none, none] := by
  have hlen := R.len
  have hsr := R.hsr
  obtain ⟨k, rfl⟩ : ∃ k, e = b + k := ⟨e - b, by omega⟩
  obtain ⟨q, hq⟩ : ∃ q, k / 2 = q := ⟨_, rfl⟩
  obtain ⟨q', hq'⟩ : ∃ q, (k - 1) / 2 = q := ⟨_, rfl⟩
  have h1 : ((k : Int) - 1) / 2 = q' := by omega
  have h2 : (k : Int) / 2 = q := by omega
  have hcut := cut_tab (n := n) (b := b) (k := k) (f := fun i => .int (r i)) he
  have hc := check_stretch_eq R h hl hb he
  rw [Int.natCast_add] at hc
  with_reducible refine VL.R.eq_of_wp (wp_middles ?_)
  simp [ir_middles, hc, hsr, hcut, h1, h2, tabW_at (show q < k by omega), tabW_at (show q' < k by omega), hq, hq', show b + k - b = k by omega]
  decide +kernel
end LW
set_option Elab.async false
set_option linter.all false
set_option maxRecDepth 100000
set_option maxHeartbeats 4000000
namespace LW
open PySem L2 VL
theorem minF_minO {ns : List Int} : minF (ns.map W.int) = (LineM.minO ns).map W.int := by
  cases ns with
  | nil => rfl
  | cons x r => rw [List.map_cons, minF_ints, least_eq]; rfl
theorem maxF_most {ns : List Int} {m : Int} (h : m ∈ ns) (hm : ∀ x ∈ ns, x ≤ m) : maxF (ns.map W.int) = some (.int m) := by
  cases ns with
  | nil => simp at h
  | cons x r =>
    rw [List.map_cons, maxF_ints]
    obtain ⟨h1, h2, h3⟩ := mostI_le r x
    have a1 : mostI x r ≤ m := by
      rcases h3 with h3 | h3
      · rw [h3]; exact hm x (by simp)
      · exact hm _ (by simp [h3])
    have a2 : m ≤ mostI x r := by
      rcases List.mem_cons.mp h with rfl | h
      · exact h1
      · exact h2 _ h
    rw [show mostI x r = m by omega]
theorem minF_least {ns : List Int} {m : Int} (h : m ∈ ns) (hm : ∀ x ∈ ns, m ≤ x) : minF (ns.map W.int) = some (.int m) := by
  rw [minF_minO, LineM.minO_some.mpr ⟨h, hm⟩]; rfl
def near3 (f : Nat → Int) (k : Nat) : List Int := (List.range k).flatMap fun i => [f i - 1, f i, f i + 1]
theorem near3_succ {f : Nat → Int} (k : Nat) : near3 f (k + 1) = near3 f k ++ [f k - 1, f k, f k + 1] := by
  unfold near3; rw [List.range_succ, List.flatMap_append]; simp
theorem near3_len {f : Nat → Int} : ∀ k, (near3 f k).length = 3 * k
  | 0 => rfl
  | k + 1 => by rw [near3_succ, List.length_append, near3_len k]; simp; omega
theorem near3_mem {f : Nat → Int} {k i : Nat} (h : i < k) : f i ∈ near3 f k := by
  unfold near3
  rw [List.mem_flatMap]
  exact ⟨i, by simpa using h, by simp⟩
theorem middles_of_eq {m : Fl} {n : Nat} {r : Nat → Int} (up : ∀ i j, i ≤ j → j < n → r i ≤ r j) {b k : Nat} (hk : 0 < k) (he : b + k ≤ n) (hn : n ≤ 300) :
    F_law_middles_of.run [.lst m (tabI k fun i => r (b + i))] = .ok (.tup [.int (r (b + (b + k - b - 1) / 2)), .int (r (b + (b + k - b) / 2)), .int (LineM.loss r b (b + k))]) [none] := by
  have lo := LineM.DD_low up (show b < b + k by omega) he
  have hi := LineM.DD_high up (show b < b + k by omega) he
  have lo2 := fun c => @LineM.DD_under r n up b (b + k) (by omega) he c
  have hi2 := fun c => @LineM.DD_over r n up b (b + k) (by omega) he c
  have all := @LineM.DD_loss r b (b + k) (by omega)
  obtain ⟨q, hq⟩ : ∃ q, (b + k - b) / 2 = q := ⟨_, rfl⟩
  obtain ⟨q', hq'⟩ : ∃ q, (b + k - b - 1) / 2 = q := ⟨_, rfl⟩
  rw [hq] at hi hi2 ⊢
  rw [hq'] at lo lo2 ⊢
  obtain ⟨f, hf⟩ : ∃ f : Nat → Int, f = fun i => r (b + i) := ⟨_, rfl⟩
  obtain ⟨D, hD⟩ : ∃ D : Int → Int, D = LineM.DD r b (b + k) := ⟨_, rfl⟩
  rw [← hD] at lo hi lo2 hi2 all
  have sd : ∀ c, ((List.range k).map fun i => LineM.iabs (f i - c)).sum = D c := fun c => by rw [hf, hD]; exact sum_dd k
  generalize hL : LineM.loss r b (b + k) = ls at *
  have m1 : r (b + q') ∈ near3 f k := by have := near3_mem (f := f) (k := k) (i := q') (by omega); rw [hf] at this; rw [hf]; exact this
  have m2 : r (b + q) ∈ near3 f k := by have := near3_mem (f := f) (k := k) (i := q) (by omega); rw [hf] at this; rw [hf]; exact this
  have hlen := near3_len (f := f) k
  have getC : ∀ p ∈ near3 f k, getK (.inl p) (mergeW [] ((near3 f k).map fun p => (.inl p, .int (D p)))) = some (.int (D p)) := fun p hp =>
    getK_merge (κ := fun p => .inl p) (G := fun p => W.int (D p)) (fun q _ e => by cases e; rfl) (.inl (List.mem_map.mpr ⟨p, hp, rfl⟩))
  have kp : kpairs ((near3 f k).map fun p => .tup [.int p, .int (D p)]) = some ((near3 f k).map fun p => (.inl p, .int (D p))) := kpairs_map (κ := fun p => p)
  have hC1 : ∀ p, hasK p (mergeW [] ((near3 f k).map fun p => ((.inl p : Key), W.int (D p)))) = false := fun p => hasK_merge (fun x hx => by obtain ⟨z, _, rfl⟩ := List.mem_map.mp hx; simp) rfl
  have hC2 : ∀ g, mapK g (mergeW [] ((near3 f k).map fun p => ((.inl p : Key), W.int (D p)))) = mergeW [] ((near3 f k).map fun p => ((.inl p : Key), W.int (D p))) := fun g => mapK_merge (fun x hx => by obtain ⟨z, _, rfl⟩ := List.mem_map.mp hx; simp) rfl
  have tf : (tabI k fun i => r (b + i)) = tabI k f := by rw [hf]
  rw [tf]
  generalize hC : mergeW [] ((near3 f k).map fun p => ((.inl p : Key), W.int (D p))) = C at *
  with_reducible refine VL.R.eq_of_wp (wp_law_middles_of ?_)
  simp [ir_law_middles_of]
  refine forL_wp (fun j ro env => (∃ w, ro = [some (.lst w (tabI k f)), none, none, none, none, none, none]) ∧ ∃ c, env = [none, some (.lst .own ((near3 f j).map W.int)), c, none, none, none, none]) ⟨⟨_, rfl⟩, none, by simp [near3]⟩ ?_ ?_
  · rintro j x ro env hx ⟨⟨w0, rfl⟩, c, rfl⟩
    obtain ⟨hj, rfl⟩ := tabW_in hx
    have hlj := near3_len (f := f) j
    simp [near3_succ, hlj]
    omega
  · rintro ro env ⟨⟨w0, rfl⟩, c, rfl⟩
    rw [tabW_len]
    have hb : minF (((near3 f k).map D).map W.int) = some (.int ls) := minF_least (List.mem_map.mpr ⟨_, m1, lo⟩) fun x hx => by
      obtain ⟨p, _, rfl⟩ := List.mem_map.mp hx
      exact all p
    have hb' : minF ((near3 f k).map fun p => W.int (D p)) = some (.int ls) := by rw [← hb, List.map_map]; rfl
    obtain ⟨gd, hg⟩ : ∃ gd, (near3 f k).filter (fun p => D p == ls) = gd := ⟨_, rfl⟩
    have hgm : ∀ p, p ∈ gd ↔ p ∈ near3 f k ∧ D p = ls := fun p => by rw [← hg]; simp
    have hmin : minF (gd.map W.int) = some (.int (r (b + q'))) := minF_least ((hgm _).mpr ⟨m1, lo⟩) fun x hx => by
      have := (hgm x).mp hx
      have := lo2 x
      omega
    have hmax : maxF (gd.map W.int) = some (.int (r (b + q))) := maxF_most ((hgm _).mpr ⟨m2, hi⟩) fun x hx => by
      have := (hgm x).mp hx
      have := hi2 x
      omega
    have hgd : (near3 f k).filterMap (fun p => if D p = ls then some (W.int p) else none) = gd.map W.int := by
      rw [← hg, ← fm_filter_map]
      exact fm_congr fun p _ => by simp
    rcases c with _ | c <;>
    (simp
     refine comp_lfm (l := near3 f k) (g := W.int) (fun p => some (.tup [.int p, .int (D p)])) (by omega) (fun p hp => ?_) ?_
     · simp
       refine comp_tab (fun i => .int (LineM.iabs (f i - p))) (by omega) (fun i hi => by simp [LineM.iabs]) ?_
       simp [sd]
     rw [fm_some]
     simp [kp, hC, hlen]
     refine ⟨⟨hasL_map fun _ _ => by simp, by omega⟩, ?_⟩
     simp [hC1, hC2]
     refine comp_lfm (l := near3 f k) (g := W.int) (fun p => some (.int (D p))) (by omega) (fun p hp => by simp [getC p hp]) ?_
     rw [fm_some]
     simp [hb', hC1, hC2]
     refine comp_lfm (l := near3 f k) (g := W.int) (fun p => if D p = ls then some (.int p) else none) (by omega) (fun p hp => ?_) ?_
     · by_cases e : D p = ls <;> simp [getC p hp, e]
     rw [hgd]
     simp [hmin, hmax])
end LW
set_option Elab.async false
set_option linter.all false
set_option maxRecDepth 100000
set_option maxHeartbeats 4000000
namespace LW
open PySem L2 VL
theorem some_spec {N : Nat} {w : W} {m : Fl} {ns : List Int} (hp : Pot N w) (hN : N < 2 ^ 50) (hl : ns.length ≤ 1000) : (F_law_some.run [w, .lst m (ns.map W.int), .int ns.length]).wp (fun d bs => ∃ (fs : List Int) (w' : W), d = .lst .own (fs.map W.int) ∧ fs.Perm ns ∧ bs = [some w', none, none] ∧ Pot (N + ns.length) w') noX := by
  have := hp.lst
  with_reducible refine wp_law_some ?_
  simp [ir_law_some, this]
  refine ⟨by omega, ?_⟩
  refine forL_wp (fun k ro env => (∃ w0, ro = [none, some (.lst w0 (ns.map W.int)), some (.int ns.length), none, none, none]) ∧ ∃ w ls fs c, Pot (N + k) w ∧ fs.length = k ∧ (fs ++ ls).Perm ns ∧
    env = [some w, none, none, some (.lst .own (ls.map W.int)), some (.lst .own (fs.map W.int)), c]) ⟨⟨_, rfl⟩, w, ns, [], none, hp, rfl, by simp, by simp⟩ ?_ ?_
  · rintro k x ro env hx ⟨⟨w0, rfl⟩, w, ls, fs, c, p, hk, hp, rfl⟩
    obtain ⟨hk2, rfl⟩ := tabW_in hx
    have hlen := hp.length_eq
    rw [List.length_append] at hlen
    simp [p.lst]
    refine R.wp_of (take_spec p (by omega) (by omega) (by omega)) ?_
    rintro _ _ ⟨i, w4, rfl, i0, i1, rfl, p4⟩
    obtain ⟨j, rfl⟩ := Int.eq_ofNat_of_zero_le i0
    have hj : j < ls.length := by omega
    simp [p4.lst, mut_popI hj (by omega)]
    refine ⟨by omega, w4, p4, ls.eraseIdx j, fs ++ [ls[j]], by rw [List.length_append, hk]; rfl, ?_, rfl, rfl, by simp⟩
    refine List.Perm.trans ?_ hp
    rw [List.append_assoc]
    exact List.Perm.append_left fs (erase_perm hj)
  · rintro ro env ⟨⟨w0, rfl⟩, w, ls, fs, c, p, hk, hp, rfl⟩
    rw [tabW_len] at hk p
    simp [p.lst]
    have hlen := hp.length_eq
    rw [List.length_append] at hlen
    have h0 : ls = [] := List.length_eq_zero_iff.mp (by omega)
    subst h0
    rw [List.append_nil] at hp
    exact ⟨fs, rfl, hp, p⟩
end LW
set_option Elab.async false
set_option linter.all false
set_option maxRecDepth 100000
set_option maxHeartbeats 4000000
namespace LW
open PySem L2 VL
def rngI (n : Nat) : List Int := (List.range n).map fun (k : Nat) => (k : Int)
structure Crowds (cs : List (List Int)) (n s : Nat) : Prop where
  perm : cs.flatten.Perm (rngI n)
  asc : ∀ c ∈ cs, c.Pairwise (· < ·)
  size : ∀ c ∈ cs, s ≤ c.length
def tupI (c : List Int) : W := .tup (c.map W.int)
theorem rngI_nodup (n : Nat) : (rngI n).Nodup := by
  unfold rngI
  rw [List.nodup_iff_pairwise_ne, List.pairwise_map]
  exact (List.pairwise_lt_range (n := n)).imp fun h => by omega
theorem rngI_len (n : Nat) : (rngI n).length = n := by simp [rngI]
theorem rngI_mem {n : Nat} {x : Int} : x ∈ rngI n ↔ 0 ≤ x ∧ x < n := by
  unfold rngI
  simp only [List.mem_map, List.mem_range]
  constructor
  · rintro ⟨k, h, rfl⟩; omega
  · intro h; exact ⟨x.toNat, by omega, by omega⟩
theorem sortI_lt {l : List Int} (h : l.Nodup) : (sortI l).Pairwise (· < ·) := by
  have h1 := sortI_up l
  have h2 : (sortI l).Nodup := (sortI_perm l).nodup_iff.mpr h
  rw [List.nodup_iff_pairwise_ne] at h2
  exact h1.imp₂ (fun a b h1 h2 => by omega) h2
@[simp] theorem has_tupI {c : List Int} {p : Fl → Bool} : (tupI c).has p = false := by simp [tupI]
@[simp] theorem mapF_tupI {c : List Int} {f : Fl → Fl} : (tupI c).mapF f = tupI c := by simp [tupI]
@[simp] theorem hasL_tupIs {cs : List (List Int)} {p : Fl → Bool} : hasL p (cs.map tupI) = false := hasL_map fun _ _ => has_tupI
@[simp] theorem mapL_tupIs {cs : List (List Int)} {f : Fl → Fl} : mapL f (cs.map tupI) = cs.map tupI := mapL_map fun _ _ => mapF_tupI
theorem cut_take {ns : List Int} {k : Nat} (h : k ≤ ns.length) : cutW (ns.map W.int) none (some (k : Int)) = (ns.take k).map W.int := by
  unfold cutW
  rw [HT.sIx_none, HT.sIx_nat, List.length_map, List.drop_zero, List.map_take]
  congr 1; omega
theorem cut_drop {ns : List Int} {k : Nat} (h : k ≤ ns.length) : cutW (ns.map W.int) (some (k : Int)) none = (ns.drop k).map W.int := by
  unfold cutW
  rw [HT.sIx_none, HT.sIx_nat, List.length_map, show min k ns.length = k by omega, List.map_drop, List.take_of_length_le (by simp)]
theorem rng_int (n : Nat) : (tabI n fun k => (k : Int)) = (rngI n).map W.int := by rw [tab_ints]; rfl
def CrE (N n s : Nat) (ro env : VL.Env) : Prop := ro = [none, some (.int n), some (.int s), none, none, none, none] ∧ ∃ (w : W) (fs : List (List Int)) (ps : List Int) (c d : Option W), Pot (N + 1000) w ∧ (fs.flatten ++ ps).Perm (rngI n) ∧ (∀ c ∈ fs, c.Pairwise (· < ·)) ∧ (∀ c ∈ fs, s ≤ c.length) ∧ (ps = [] ∨ s ≤ ps.length) ∧
    env = [some w, none, none, some (.lst .own (ps.map W.int)), some (.lst .own (fs.map tupI)), c, d]
def CrI (N n s m : Nat) (ro env : VL.Env) : Prop := ro = [none, some (.int n), some (.int s), none, none, none, none] ∧ ∃ (w : W) (fs : List (List Int)) (ps : List Int) (c d : Option W), Pot (N + n + 2 * (n - ps.length)) w ∧ ps.length = m ∧ (fs.flatten ++ ps).Perm (rngI n) ∧ (∀ c ∈ fs, c.Pairwise (· < ·)) ∧ (∀ c ∈ fs, s ≤ c.length) ∧ (ps = [] ∨ s ≤ ps.length) ∧
    env = [some w, none, none, some (.lst .own (ps.map W.int)), some (.lst .own (fs.map tupI)), c, d]
theorem crowds_spec {N n s : Nat} {w : W} (hp : Pot N w) (hN : N < 2 ^ 40) (hn : n ≤ 200) (hs : 1 ≤ s) (hs2 : s ≤ 200) (h : n = 0 ∨ s ≤ n) :
    (F_law_crowds.run [w, .int n, .int s]).wp (fun d bs => ∃ (cs : List (List Int)) (w' : W), d = .tup (cs.map tupI) ∧ Crowds cs n s ∧ bs = [some w', none, none] ∧ Pot (N + 1000) w') noX := by
  have := hp.lst
  with_reducible refine wp_law_crowds ?_
  have rl := rngI_len n
  have e0 := some_spec (m := .lnt) (ns := rngI n) hp (by omega) (by omega)
  rw [rl] at e0
  simp [ir_law_crowds, this, rng_int]
  refine ⟨by omega, R.wp_of e0 ?_⟩
  rintro _ _ ⟨fs0, w1, rfl, pf, rfl, p1⟩
  simp [p1.lst]
  have pl := pf.length_eq
  rw [rl] at pl
  refine O.wp_of (N0 := CrE N n s) (whlL_wp (CrI N n s) ?_ wFuel fs0.length _ _ (by rw [pl]; unfold wFuel; omega) ⟨rfl, w1, [], fs0, none, none, by rw [pl]; simpa using p1, rfl, by simpa using pf, by simp, by simp, by rcases h with h | h; exact .inl (List.length_eq_zero_iff.mp (by omega)); exact .inr (by omega), rfl⟩) ?_
  · rintro m ro env ⟨rfl, w, fs, ps, c, d, p, rfl, hperm, hasc, hsize, hps, rfl⟩
    have hlen := hperm.length_eq
    rw [List.length_append, rl] at hlen
    have ls : lt2 9 (s : Int) := lt2_of (by omega) (by omega)
    have lm : Nat.log2 2 + s.log2 < 1000000 := lt2_log2 (i := 2) (k := 2) (j := (s : Int)) (l := 9) (by decide) ls (by omega) (by omega)
    have nd : ps.Nodup := by
      have := hperm.nodup_iff.mpr (rngI_nodup n)
      exact (List.nodup_append.mp this).2.1
    simp [p.lst]
    by_cases h1 : (2 * s : Int) ≤ ps.length
    · simp [h1, p.lst]
      refine ⟨lm, R.wp_of (take_spec p (by omega) (by omega) (by omega)) ?_⟩
      rintro _ _ ⟨i, w4, rfl, i0, i1, rfl, p4⟩
      by_cases h2 : 0 < i
      · simp [p4.lst, h2]
        refine ⟨lm, R.wp_of (take_spec p4 (by omega) (by omega) (by omega)) ?_⟩
        rintro _ _ ⟨j, w5, rfl, j0, j1, rfl, p5⟩
        obtain ⟨j, rfl⟩ := Int.eq_ofNat_of_zero_le j0
        have hj : j + 2 * s ≤ ps.length := by omega
        have c1 := cut_take (ns := ps) (k := s + j) (by omega)
        have c2 := cut_drop (ns := ps) (k := s + j) (by omega)
        rw [Int.natCast_add] at c1 c2
        obtain ⟨A, hA⟩ : ∃ A, ps.take (s + j) = A := ⟨_, rfl⟩
        obtain ⟨B, hB⟩ : ∃ B, ps.drop (s + j) = B := ⟨_, rfl⟩
        have lA : A.length = s + j := by rw [← hA, List.length_take]; omega
        have lB : B.length = ps.length - (s + j) := by rw [← hB, List.length_drop]
        have hAB : A ++ B = ps := by rw [← hA, ← hB, List.take_append_drop]
        rw [hA] at c1
        rw [hB] at c2
        have lfs : fs.length ≤ n := by
          have h1 : fs.length ≤ fs.flatten.length := by
            have : ∀ l : List (List Int), (∀ c ∈ l, s ≤ c.length) → l.length ≤ l.flatten.length := fun l => by
              induction l with
              | nil => simp
              | cons x l ih =>
                intro h
                have := h x (by simp)
                have := ih fun c hc => h c (by simp [hc])
                rw [List.flatten_cons, List.length_append, List.length_cons]; omega
            exact this fs hsize
          omega
        rcases d with _ | d <;>
        (simp [p5.lst, c1, c2]
         refine comp_lfm (l := A) (g := W.int) (fun x => some (.int x)) (by omega) (fun x hx => by simp) ?_
         rw [fm_some]
         simp [c2]
         refine ⟨by omega, B.length, by omega, rfl, w5, fs ++ [sortI A], B, _, _, p5.mono (by omega), rfl, ?_, ?_, ?_, ?_, by simp [tupI]; exact ⟨rfl, rfl⟩⟩
         · refine List.Perm.trans ?_ hperm
           rw [List.flatten_append, List.append_assoc, ← hAB]
           refine List.Perm.append_left _ ?_
           simp
           exact (sortI_perm A).append_right B
         · intro c hc
           rcases List.mem_append.mp hc with hc | hc
           · exact hasc c hc
           · rw [List.mem_singleton] at hc
             subst hc
             refine sortI_lt ?_
             rw [← hAB] at nd
             exact (List.nodup_append.mp nd).1
         · intro c hc
           rcases List.mem_append.mp hc with hc | hc
           · exact hsize c hc
           · rw [List.mem_singleton] at hc
             subst hc
             rw [(sortI_perm A).length_eq]; omega
         · exact .inr (by omega))
      · simp [p4.lst, h2]
        exact ⟨rfl, w4, fs, ps, c, d, p4.mono (by omega), hperm, hasc, hsize, hps, rfl⟩
    · simp [h1, p.lst]
      exact ⟨lm, rfl, w, fs, ps, c, d, p.mono (by omega), hperm, hasc, hsize, hps, rfl⟩
  · rintro ro env ⟨rfl, w, fs, ps, c, d, p, hperm, hasc, hsize, hps, rfl⟩
    have mem : ∀ x ∈ ps, 0 ≤ x ∧ x < n := fun x hx => rngI_mem.mp (hperm.mem_iff.mp (by simp [hx]))
    have he := eq_nil (m := .lnt) (n := .own) (ws := ps.map W.int) (fineL_ints fun x h => lt2_log (k := 8) (lt2_of (by have := mem x h; omega) (by have := mem x h; omega)) (by omega) (by omega)) (by rw [depL_ints]; omega)
    have hlen := hperm.length_eq
    rw [List.length_append, rl] at hlen
    have nd : ps.Nodup := by
      have := hperm.nodup_iff.mpr (rngI_nodup n)
      exact (List.nodup_append.mp this).2.1
    have lfs : fs.length + 1 ≤ 16777216 := by
      have : ∀ l : List (List Int), (∀ c ∈ l, s ≤ c.length) → l.length ≤ l.flatten.length := fun l => by
        induction l with
        | nil => simp
        | cons x l ih =>
          intro h
          have := h x (by simp)
          have := ih fun c hc => h c (by simp [hc])
          rw [List.flatten_cons, List.length_append, List.length_cons]; omega
      have := this fs hsize
      omega
    cases hq : ps with
    | nil =>
      rw [hq] at he hperm
      rw [List.append_nil] at hperm
      simp at he
      rcases d with _ | d <;>
      (simp [p.lst, he]
       exact ⟨by omega, fs, rfl, ⟨hperm, hasc, hsize⟩, p⟩)
    | cons y q =>
      have lps : s ≤ ps.length := hps.resolve_left (by rw [hq]; simp)
      rw [hq] at he
      simp at he
      have hps' : (W.int y :: q.map W.int) = ps.map W.int := by rw [hq]; rfl
      rcases d with _ | d <;>
      (simp [p.lst, he]
       rw [hps']
       refine comp_lfm (l := ps) (g := W.int) (fun x => some (.int x)) (by omega) (fun x hx => by simp) ?_
       rw [fm_some]
       simp
       refine ⟨by omega, fs ++ [sortI ps], by simp [tupI], ⟨?_, ?_, ?_⟩, p⟩
       · refine List.Perm.trans ?_ hperm
         rw [List.flatten_append]
         refine List.Perm.append_left _ ?_
         simp
         exact sortI_perm ps
       · intro c hc
         rcases List.mem_append.mp hc with hc | hc
         · exact hasc c hc
         · rw [List.mem_singleton] at hc
           subst hc
           exact sortI_lt nd
       · intro c hc
         rcases List.mem_append.mp hc with hc | hc
         · exact hsize c hc
         · rw [List.mem_singleton] at hc
           subst hc
           rw [(sortI_perm ps).length_eq]; omega)
end LW
set_option Elab.async false
set_option linter.all false
set_option maxRecDepth 100000
set_option maxHeartbeats 4000000
namespace LW
open PySem L2 VL
theorem cut_tail {ns : List Int} : cutW (ns.map W.int) (some 1) none = ns.tail.map W.int := by
  unfold cutW
  rw [HT.sIx_none, show (1 : Int) = ((1 : Nat) : Int) from rfl, HT.sIx_nat, List.length_map]
  cases ns with
  | nil => rfl
  | cons x r =>
    simp
    rw [List.take_of_length_le (by simp)]
def prW (p : Int × Int) : W := .tup [.int p.1, .int p.2]
theorem zip_nf : ∀ (a b : List Int), List.zipWith (fun a b => W.tup [W.int a, W.int b]) a b = (List.zip a b).map prW
  | [], _ => rfl
  | _ :: _, [] => rfl
  | x :: a, y :: b => by
    simp only [List.zipWith_cons_cons, List.zip_cons_cons, List.map_cons, zip_nf a b]; rfl
theorem asc_zip : ∀ (c : List Int), c.Pairwise (· < ·) → ∀ p ∈ List.zip c c.tail, p.1 < p.2
  | [], _, p, h => by simp at h
  | [x], _, p, h => by simp at h
  | x :: y :: r, hc, p, h => by
    rw [List.pairwise_cons] at hc
    simp only [List.tail_cons, List.zip_cons_cons, List.mem_cons] at h
    rcases h with rfl | h
    · exact hc.1 y (by simp)
    · exact asc_zip (y :: r) hc.2 p h
theorem all_bl {α : Type} {l : List α} {f : α → Bool} (h : ∀ x ∈ l, f x = true) : ((l.map f).all id) = true := by
  rw [List.all_map, List.all_eq_true]
  exact fun x hx => h x hx
theorem blsOf_map {α : Type} {l : List α} {f : α → Bool} : blsOf (l.map fun x => W.bl (f x)) = some (l.map f) := by
  rw [← blsOf_bls (ns := l.map f), List.map_map]; rfl
theorem bl_true {α : Type} {l : List α} : blsOf (l.map fun _ => W.bl true) = some (l.map fun _ => true) := blsOf_map (f := fun _ => true)
theorem all_tt {α : Type} {l : List α} : ((l.map fun _ => true).all id) = true := all_bl fun _ _ => rfl
def kvT (c : List Int) : List (Key × W) := c.map fun x => (.inl x, .bl true)
theorem kvT_len {c : List Int} : (kvT c).length = c.length := by unfold kvT; rw [List.length_map]
theorem kvT_keys (c : List Int) : (kvT c).map (·.1) = c.map fun x => (Sum.inl x : Key) := by unfold kvT; rw [List.map_map]; rfl
theorem kvT_nodup {c : List Int} (h : c.Nodup) : ((kvT c).map (·.1)).Nodup := by
  rw [kvT_keys, List.nodup_iff_pairwise_ne, List.pairwise_map]
  exact (List.nodup_iff_pairwise_ne.mp h).imp fun h z => h (by cases z; rfl)
theorem hasK_kvT {c : List Int} {p : Fl → Bool} : hasK p (kvT c) = false := by
  unfold kvT
  induction c with
  | nil => rfl
  | cons x r ih => rw [List.map_cons, hasK_cons, ih]; simp
theorem mapK_kvT {c : List Int} {f : Fl → Fl} : mapK f (kvT c) = kvT c := by
  unfold kvT
  induction c with
  | nil => rfl
  | cons x r ih => rw [List.map_cons, mapK_cons, ih]; simp
theorem kvT_app (a b : List Int) : kvT a ++ kvT b = kvT (a ++ b) := by unfold kvT; rw [List.map_append]
theorem are_crowds_eq {cs : List (List Int)} {n s : Nat} (C : Crowds cs n s) (hn : n ≤ 200) (hs : 0 < s) : F_are_crowds.run [.int n, .int s, .tup (cs.map tupI)] = .ok (.bl true) [none, none, none] := by
  have hfl := C.perm.length_eq
  rw [rngI_len] at hfl
  have hnd := C.perm.nodup_iff.mpr (rngI_nodup n)
  have hcs : cs.length ≤ n := by
    rw [← hfl]
    have : ∀ l : List (List Int), (∀ c ∈ l, s ≤ c.length) → l.length ≤ l.flatten.length := fun l => by
      induction l with
      | nil => simp
      | cons x l ih =>
        intro h
        have := h x (by simp)
        have := ih fun c hc => h c (by simp [hc])
        rw [List.flatten_cons, List.length_append, List.length_cons]; omega
    exact this cs C.size
  with_reducible refine VL.R.eq_of_wp (wp_are_crowds ?_)
  simp [ir_are_crowds, isinF]
  refine comp_lfm (l := cs) (g := tupI) (fun x => some (.bl true)) (by omega) (fun x hx => by simp [tupI, isinF]) ?_
  rw [fm_some]
  simp [bl_true, all_tt]
  refine forL_wp (fun k ro env => ro = [some (.int n), some (.int s), some (.tup (cs.map tupI)), none, none, none, none, none] ∧ ∃ a, env = [none, none, none, some (.dct .own (kvT (cs.take k).flatten)), a, none, none, none]) ⟨rfl, none, by simp [kvT]⟩ ?_ ?_
  · rintro k x ro env hx ⟨rfl, a, rfl⟩
    rw [List.getElem?_map] at hx
    obtain ⟨c, hc, rfl⟩ := Option.map_eq_some_iff.mp hx
    have hmem := List.mem_of_getElem? hc
    have hsz := C.size c hmem
    have hsub : ∀ y ∈ c, y ∈ cs.flatten := fun y hy => List.mem_flatten.mpr ⟨c, hmem, hy⟩
    have hrg : ∀ y ∈ c, 0 ≤ y ∧ y < n := fun y hy => rngI_mem.mp (C.perm.mem_iff.mp (hsub y hy))
    have htk : (cs.take (k + 1)).flatten = (cs.take k).flatten ++ c := by
      rw [take_succ_at hc, List.flatten_append]; simp
    have hpre : (cs.take (k + 1)).flatten.Nodup := by
      have : cs.flatten = (cs.take (k + 1)).flatten ++ (cs.drop (k + 1)).flatten := by rw [← List.flatten_append, List.take_append_drop]
      rw [this] at hnd
      exact (List.nodup_append.mp hnd).1
    have hlc : ((cs.take k).flatten).length + c.length ≤ n := by
      have : cs.flatten = (cs.take (k + 1)).flatten ++ (cs.drop (k + 1)).flatten := by rw [← List.flatten_append, List.take_append_drop]
      rw [htk] at this
      have := congrArg List.length this
      rw [List.length_append, List.length_append] at this
      omega
    have hds : ¬ ((c.length : Int) < s) := by omega
    have hcn : c.Nodup := (C.asc c hmem).imp fun h => by omega
    have htl : c.tail.length = c.length - 1 := by simp
    have hzip : (List.zip c c.tail).length ≤ 200 := by rw [List.length_zip]; omega
    have htup : tupI c = .tup (c.map W.int) := rfl
    rw [htup]
    have hasc := asc_zip c (C.asc c hmem)
    have hcut := cut_tail (ns := c)
    obtain ⟨ct, hct⟩ : ∃ ct, c.tail = ct := ⟨_, rfl⟩
    rw [hct] at hcut hzip hasc
    simp [hds]
    refine comp_lfm (l := c) (g := W.int) (fun x => some (.bl true)) (by omega) (fun x hx => ?_) ?_
    · have := hrg x hx
      have h1 : x ≤ (n : Int) - 1 := by omega
      simp [is_within_eq, this, h1]
    rw [fm_some]
    simp [bl_true, all_tt, hcut]
    rw [zip_nf]
    refine comp_lfm (l := List.zip c ct) (g := prW) (fun x => some (.bl true)) (by omega) (fun x hx => ?_) ?_
    · have := hasc x hx
      simp [prW, this]
    rw [fm_some]
    simp [bl_true, all_tt]
    refine dcomp_all (κ := fun x => .inl x) (G := fun _ => .bl true) (l := c) (g := W.int) (by simp; omega) (fun x hx => by simp [dcompStep]) ?_
    have hm0 : mergeW [] (c.map fun x => ((.inl x : Key), W.bl true)) = kvT c := by
      rw [mergeW_new (by rw [List.nil_append]; exact kvT_nodup hcn)]; rfl
    have hm1 : mergeW (kvT (cs.take k).flatten) (kvT c) = kvT (cs.take (k + 1)).flatten := by
      rw [mergeW_new (by rw [kvT_app, ← htk]; exact kvT_nodup hpre), kvT_app, ← htk]
    rw [hm0]
    have hlc2 := hlc
    simp only [List.length_flatten, List.map_take] at hlc2
    simp [hasK_kvT, hm1, kvT_len]
    omega
  · rintro ro env ⟨rfl, a, rfl⟩
    rw [List.length_map, List.take_length]
    have hsum : (cs.map fun x => (x.length : Int)).sum = n := by
      rw [← hfl, List.length_flatten]
      generalize cs = l
      induction l with
      | nil => rfl
      | cons x l ih => simp [ih]
    have hkl : (kvT cs.flatten).length = n := by rw [kvT_len, hfl]
    rcases a with _ | a <;>
    (simp [mapK_kvT, hkl]
     refine comp_lfm (l := cs) (g := tupI) (fun x => some (.int x.length)) (by omega) (fun x hx => by simp [tupI]) ?_
     rw [fm_some]
     simp [hsum])
/-! ## losses -/
def pLoss (vs : List Int) (c : List Int) (o : Int) : Int := (c.map fun p => LineM.iabs (vs.getD p.toNat 0 - o)).sum
def cLoss (vs : List Int) (cs : List (List Int)) (sh : List Int) : Int := ((List.zip cs sh).map fun p => pLoss vs p.1 p.2).sum
theorem at_ints {vs : List Int} {p : Int} (h0 : 0 ≤ p) (h : p < vs.length) : atI (vs.map W.int) p = some (.int (vs.getD p.toNat 0)) := by
  obtain ⟨k, rfl⟩ := Int.eq_ofNat_of_zero_le h0
  rw [atI_cast, List.getElem?_map, List.getD_eq_getElem?_getD]
  have hk : k < vs.length := by omega
  simp [List.getElem?_eq_getElem hk]
def coW (p : List Int × Int) : W := .tup [tupI p.1, .int p.2]
theorem zip_co : ∀ (a : List (List Int)) (b : List Int), List.zipWith (fun a b => W.tup [tupI a, W.int b]) a b = (List.zip a b).map coW
  | [], _ => rfl
  | _ :: _, [] => rfl
  | x :: a, y :: b => by
    simp only [List.zipWith_cons_cons, List.zip_cons_cons, List.map_cons, zip_co a b]; rfl
theorem mem_zip_l {α β : Type} : ∀ {a : List α} {b : List β} {p : α × β}, p ∈ List.zip a b → p.1 ∈ a
  | [], _, _, h => by simp at h
  | _ :: _, [], _, h => by simp at h
  | x :: a, y :: b, p, h => by
    rw [List.zip_cons_cons, List.mem_cons] at h
    rcases h with rfl | h
    · simp
    · simp [mem_zip_l h]
theorem Crowds.rg {cs : List (List Int)} {n s : Nat} (C : Crowds cs n s) {c : List Int} (hc : c ∈ cs) : ∀ y ∈ c, 0 ≤ y ∧ y < n := fun y hy => rngI_mem.mp (C.perm.mem_iff.mp (List.mem_flatten.mpr ⟨c, hc, hy⟩))
theorem Crowds.len_le {cs : List (List Int)} {n s : Nat} (C : Crowds cs n s) {c : List Int} (hc : c ∈ cs) : c.length ≤ n := by
  have hfl := C.perm.length_eq
  rw [rngI_len] at hfl
  rw [← hfl]
  obtain ⟨a, b, rfl⟩ := List.append_of_mem hc
  rw [List.flatten_append, List.flatten_cons, List.length_append, List.length_append]; omega
theorem Crowds.many {cs : List (List Int)} {n s : Nat} (C : Crowds cs n s) (hs : 0 < s) : cs.length ≤ n := by
  have hfl := C.perm.length_eq
  rw [rngI_len] at hfl
  rw [← hfl]
  have : ∀ l : List (List Int), (∀ c ∈ l, s ≤ c.length) → l.length ≤ l.flatten.length := fun l => by
    induction l with
    | nil => simp
    | cons x l ih =>
      intro h
      have := h x (by simp)
      have := ih fun c hc => h c (by simp [hc])
      rw [List.flatten_cons, List.length_append, List.length_cons]; omega
  exact this cs C.size
theorem loss_of_eq {cs : List (List Int)} {n s : Nat} {vs sh : List Int} (C : Crowds cs n s) (hn : n ≤ 200) (hs : 0 < s) (hv : vs.length = n) : F_loss_of.run [.tup (vs.map W.int), .tup (cs.map tupI), .tup (sh.map W.int)] = .ok (.int (cLoss vs cs sh)) [none, none, none] := by
  have hz : (List.zip cs sh).length ≤ 200 := by rw [List.length_zip]; have := C.many hs; omega
  with_reducible refine VL.R.eq_of_wp (wp_loss_of ?_)
  simp [ir_loss_of]
  rw [zip_co]
  refine comp_lfm (l := List.zip cs sh) (g := coW) (fun p => some (.int (pLoss vs p.1 p.2))) (by omega) (fun p hp => ?_) ?_
  · have hc := mem_zip_l hp
    have hl := C.len_le hc
    have hr := C.rg hc
    obtain ⟨c, o⟩ := p
    have htup : tupI c = .tup (c.map W.int) := rfl
    simp [coW, htup]
    refine comp_lfm (l := c) (g := W.int) (fun x => some (.int (LineM.iabs (vs.getD x.toNat 0 - o)))) (by dsimp only at hl; omega) (fun x hx => ?_) ?_
    · have := hr x hx
      simp [at_ints (vs := vs) this.1 (by omega), LineM.iabs]
    rw [fm_some]
    simp [pLoss]
  rw [fm_some]
  simp [cLoss]
theorem is_shown_eq {cs : List (List Int)} {sh : List Int} (h : sh.length = cs.length) (hl : cs.length ≤ 1000) : F_is_shown.run [.tup (cs.map tupI), .tup (sh.map W.int)] = .ok (.bl true) [none, none] := by
  with_reducible refine VL.R.eq_of_wp (wp_is_shown ?_)
  simp [ir_is_shown, isinF, h]
  refine comp_lfm (l := sh) (g := W.int) (fun x => some (.bl true)) (by omega) (fun x hx => by simp [is_integer_eq]) ?_
  rw [fm_some]
  simp [bl_true, all_tt]
theorem line_loss_eq {cs : List (List Int)} {n s : Nat} {vs sh : List Int} (C : Crowds cs n s) (hn : n ≤ 200) (hs : 0 < s) (hs2 : s ≤ 200) (hv : vs.length = n) (hok : ∀ x ∈ vs, vok x) (h : sh.length = cs.length) :
    F_line_loss.run [.tup (vs.map W.int), .int s, .tup (cs.map tupI), .tup (sh.map W.int)] = .ok (.int (cLoss vs cs sh)) [none, none, none, none] := by
  have := C.many hs
  with_reducible refine VL.R.eq_of_wp (wp_line_loss ?_)
  simp [ir_line_loss, check_size_eq (s := (s : Int)) hok (by omega) (by omega) (by omega), hv, are_crowds_eq C hn hs, is_shown_eq h (by omega), loss_of_eq C hn hs hv]
end LW
set_option Elab.async false
set_option linter.all false
set_option maxRecDepth 100000
set_option maxHeartbeats 4000000
namespace LW
open PySem L2 VL
theorem least_loss_eq {n s : Nat} {r : Nat → Int} {ns : List Int} (R : Row ns n r) (hs : 0 < s) (hs2 : s ≤ 300) : F_least_loss.run [.tup (ns.map W.int), .int s] = .ok (wO (FA r s n)) [none, none] := by
  with_reducible refine VL.R.eq_of_wp (wp_least_loss ?_)
  simp [ir_least_loss, init_eq R.hsr R.hn, least_prog_eq (m := .lnt) R hs hs2]
theorem one_more_eq {n s : Nat} {r r' : Nat → Int} {vs : List Int} {v m m' : Int} (R : Row vs n r) (R' : Row (vs ++ [v]) (n + 1) r') (hok : ∀ x ∈ vs, vok x) (hv : vok v) (hn : n ≤ 199) (hs : 1 ≤ s) (hs2 : s ≤ 200) (h : n = 0 ∨ s ≤ n) (e : FA r s n = some m) (e' : FA r' s (n + 1) = some m') :
    F_one_more.run [.tup (vs.map W.int), .int s, .int v] = .ok (.int (m' - m)) [none, none, none] := by
  have hlen := R.len
  have c1 := check_size_eq (s := (s : Int)) hok (by omega) (by omega) (by omega)
  have c2 : F_check_crowds.run [.tup (vs.map W.int), .int s] = .ok .non [none, none] := by
    with_reducible refine VL.R.eq_of_wp (wp_check_crowds ?_)
    simp [ir_check_crowds, c1]
    have : ¬ (0 < (vs.length : Int) ∧ (vs.length : Int) < s) := by omega
    by_cases h0 : vs.length = 0
    · have : vs = [] := List.length_eq_zero_iff.mp h0
      subst this
      simp
    · have h1 : 0 < vs.length := by omega
      have h2 : ¬ (vs.length < s) := by omega
      simp [h1, h2]
  have l1 := least_loss_eq (s := s) R (by omega) (by omega)
  have l2 := least_loss_eq (s := s) R' (by omega) (by omega)
  rw [e] at l1
  rw [e', List.map_append] at l2
  have hv' : -1000000 ≤ v ∧ v ≤ 1000000 := hv
  have hne : ¬ ((vs.length : Int) = 200) := by omega
  with_reducible refine VL.R.eq_of_wp (wp_one_more ?_)
  simp at l2
  simp [ir_one_more, c1, c2, l1, l2, is_line_value_eq, hv', hne]
  omega
theorem eq_nil_tab {m k : Fl} {n : Nat} {f : Nat → Int} (h : ∀ i, i < n → lt2 1900 (f i)) : eqF (.lst m (tabI n f)) (.lst k []) = some (decide (n = 0)) := by
  rw [tab_ints]
  have := eq_nil (m := m) (n := k) (ws := ((List.range n).map f).map W.int) (fineL_ints fun x hx => by
    obtain ⟨i, hi, rfl⟩ := List.mem_map.mp hx
    exact lt2_log (h i (by simpa using hi)) (by omega) (by omega)) (by rw [depL_ints]; omega)
  rw [this]
  cases n <;> simp [List.range_succ]
abbrev no17 : VL.Env := [none, none, none, none, none, none, none, none, none, none, none, none, none, none, none, none, none]
def RI (vs : List Int) (n : Nat) (r : Nat → Int) (M : Nat) (ro env : VL.Env) : Prop := ro = no17 ∧ ∃ w a3 a4 a5 a6 a7 a8, Pot M w ∧ env = [some w, some (.tup (vs.map W.int)), some (.lst .frz (tabI n r)), a3, a4, a5, a6, a7, a8, none, none, none, none, none, none, none, none]
theorem map_tab {α : Type} {l : List α} {g : α → W} (d : α) : l.map g = tabW l.length fun k => g (l.getD k d) := by
  apply List.ext_getElem?
  intro i
  by_cases h : i < l.length
  · rw [List.getElem?_map, List.getElem?_eq_getElem h, tabW_at h, List.getD_eq_getElem?_getD, List.getElem?_eq_getElem h]; rfl
  · rw [List.getElem?_eq_none (by simpa using h), List.getElem?_eq_none (by simpa using h)]
theorem sum_abs {B : Nat} : ∀ {l : List Int}, (∀ x ∈ l, x.natAbs ≤ B) → l.sum.natAbs ≤ l.length * B
  | [], _ => by simp
  | x :: l, h => by
    have h1 := sum_abs (l := l) (B := B) fun y hy => h y (List.mem_cons_of_mem _ hy)
    have h2 := h x (by simp)
    have h3 := Int.natAbs_add_le x l.sum
    rw [List.sum_cons, List.length_cons, Nat.succ_mul]
    omega
theorem cLoss_lt {vs sh : List Int} {cs : List (List Int)} (hv : ∀ x ∈ vs, vok x) (hsh : ∀ o ∈ sh, lt2 22 o) (hl : cs.length ≤ 200) (hc : ∀ c ∈ cs, c.length ≤ 200) : lt2 1900 (cLoss vs cs sh) := by
  have h1 : ∀ x ∈ (List.zip cs sh).map (fun p => pLoss vs p.1 p.2), x.natAbs ≤ 200 * 2 ^ 23 := fun x hx => by
    obtain ⟨p, hp, rfl⟩ := List.mem_map.mp hx
    have c1 := hc _ (mem_zip_l hp)
    have c2 : lt2 22 p.2 := hsh _ (List.of_mem_zip (a := p.1) (b := p.2) hp).2
    have := sum_abs (B := 2 ^ 23) (l := p.1.map fun q => LineM.iabs (vs.getD q.toNat 0 - p.2)) fun x hx => by
      obtain ⟨q, _, rfl⟩ := List.mem_map.mp hx
      have hq : vok (vs.getD q.toNat 0) := by
        rw [List.getD_eq_getElem?_getD]
        cases e : vs[q.toNat]? with
        | none => unfold vok; simp
        | some y => exact hv y (List.mem_of_getElem? e)
      unfold vok at hq
      unfold lt2 at c2
      unfold LineM.iabs
      split <;> omega
    rw [List.length_map] at this
    have h3 : p.1.length * 2 ^ 23 ≤ 200 * 2 ^ 23 := Nat.mul_le_mul_right _ c1
    have hx : (pLoss vs p.1 p.2).natAbs ≤ p.1.length * 2 ^ 23 := this
    exact Nat.le_trans hx h3
  have h2 := sum_abs h1
  rw [List.length_map, List.length_zip] at h2
  have h4 : min cs.length sh.length * (200 * 2 ^ 23) ≤ 200 * (200 * 2 ^ 23) := Nat.mul_le_mul_right _ (by omega)
  refine lt2_mono (k := 40) ?_ (by omega)
  unfold lt2 cLoss
  omega
theorem zip_take {α β : Type} {f : α × β → Int} {a : List α} {b : List β} {k : Nat} {p : α × β} (h : (List.zip a b)[k]? = some p) : (((List.zip a b).take (k + 1)).map f).sum = (((List.zip a b).take k).map f).sum + f p := by
  rw [take_succ_at h, List.map_append, List.sum_append]; simp
def LI (vs : List Int) (n : Nat) (r : Nat → Int) (a3 a4 a5 a6 a7 a8 : Option W) (s : Nat) (cs : List (List Int)) (sh : List Int) (w6 : W) (S : Int) (ro env : VL.Env) : Prop :=
  ro = no17 ∧ ∃ c13 c14, env = [some w6, some (.tup (vs.map W.int)), some (.lst .frz (tabI n r)), a3, a4, a5, a6, a7, a8, some (.int s), some (.tup (cs.map tupI)), some (.tup (sh.map W.int)), some (.int S), c13, c14, none, none]
theorem right_spec {N : Nat} {w : W} (hp : Pot N w) (hN : N < 2 ^ 30) : (F_law_right.run [w]).wp (fun d bs => d = .bl true ∧ ∃ w', bs = [some w'] ∧ Pot (N + 3000) w') noX := by
  have := hp.lst
  with_reducible refine wp_law_right ?_
  simp [ir_law_right, this]
  refine R.wp_of (line_values_spec (most := 20) hp (by omega) (by omega)) ?_
  rintro _ _ ⟨vs, w2, rfl, hl, hv, rfl, p2⟩
  obtain ⟨n, r, Rw⟩ : ∃ n r, Row vs n r := ⟨_, _, Row.mk' (fun x h => lt2_of (by have := hv x h; unfold vok at this; omega) (by have := hv x h; unfold vok at this; omega)) (by omega)⟩
  have hn : vs.length = n := Rw.len
  simp [p2.lst, Rw.hsr, frzP]
  refine O.wp_of (N0 := RI vs n r (N + 500 + 2 * 4)) (forL_wp (fun k => RI vs n r (N + 500 + 2 * k)) ⟨rfl, w2, none, none, none, none, none, none, by simpa using p2, rfl⟩ ?_ ?_) ?_
  · rintro k x ro env hx ⟨rfl, w3, a3, a4, a5, a6, a7, a8, p3, rfl⟩
    obtain ⟨hk, rfl⟩ := tabW_in hx
    simp [eq_nil_tab (fun i hi => lt2_mono (Rw.hr i hi) (by omega)), p3.lst]
    by_cases h0 : n = 0
    · simp [h0]
      exact ⟨rfl, w3, some (.int k), a4, a5, a6, a7, a8, p3.mono (by omega), by simp [h0]⟩
    · simp [h0, p3.lst]
      refine R.wp_of (take_spec p3 (by omega) (by omega) (by omega)) ?_
      rintro _ _ ⟨b, w4, rfl, b0, b1, rfl, p4⟩
      obtain ⟨b, rfl⟩ := Int.eq_ofNat_of_zero_le b0
      simp [p4.lst]
      refine R.wp_of (take_spec p4 (by omega) (by omega) (by omega)) ?_
      rintro _ _ ⟨j, w5, rfl, j0, j1, rfl, p5⟩
      obtain ⟨j, rfl⟩ := Int.eq_ofNat_of_zero_le j0
      obtain ⟨q, hq⟩ : ∃ q, j + 1 = q := ⟨_, rfl⟩
      have he : b + q ≤ n := by omega
      have hcut := cut_tab (n := n) (b := b) (k := q) (f := fun i => .int (r i)) he
      have e0 : ((b : Int) + 1 + j) = (b : Int) + ((q : Nat) : Int) := by omega
      have m1 := fun m => @middles_of_eq m n r Rw.up b q (by omega) he (by omega)
      have m2 := stretch_loss_eq Rw hv (by omega) (b := b) (e := b + q) (by omega) he
      have m3 := middles_eq Rw hv (by omega) (b := b) (e := b + q) (by omega) he
      rw [Int.natCast_add] at m2 m3
      have ll := loss_lt Rw.hr Rw.hn (show b < b + q by omega) he
      generalize LineM.loss r b (b + q) = ls at *
      have g1 := Rw.hr (b + (b + q - b - 1) / 2) (by omega)
      have g2 := Rw.hr (b + (b + q - b) / 2) (by omega)
      generalize r (b + (b + q - b - 1) / 2) = lo at *
      generalize r (b + (b + q - b) / 2) = hi at *
      have r1 := repr_int (lt2_mono ll (show 34 ≤ 1900 by omega))
      have r2 := repr_tupI (ns := [lo, hi]) (fun x hx => by
        simp at hx
        rcases hx with rfl | rfl
        · exact lt2_mono g1 (by omega)
        · exact lt2_mono g2 (by omega)) (by simp)
      simp at r2
      simp [p5.lst, e0, hcut, m1, m2, m3, r1, r2]
      exact ⟨rfl, w5, _, _, _, _, _, _, p5.mono (by omega), rfl⟩
  · intro ro env h
    rw [tabW_len] at h
    exact h
  · rintro ro env ⟨rfl, w3, a3, a4, a5, a6, a7, a8, p3, rfl⟩
    simp [p3.lst, no17]
    refine R.wp_of (take_spec p3 (by omega) (by omega) (by omega)) ?_
    rintro _ _ ⟨i, w4, rfl, i0, i1, rfl, p4⟩
    obtain ⟨s, hs⟩ : ∃ s : Nat, (1 : Int) + i = s := ⟨(1 + i).toNat, by omega⟩
    have hs1 : 1 ≤ s ∧ s ≤ 4 := by omega
    simp [p4.lst, hs]
    obtain ⟨rs, hrs⟩ : ∃ rs : List Int, rs = (List.range n).map r ++ [0] := ⟨_, rfl⟩
    have hr1 : tabI n r ++ [W.int 0] = rs.map W.int := by rw [hrs, tab_ints, List.map_append]; rfl
    have hr2 : 0 < rs.length ∧ rs.length < 2 ^ 30 := by rw [hrs]; simp; omega
    have hr3 : ∀ x ∈ rs, lt2 21 x := fun x hx => by
      rw [hrs] at hx
      rcases List.mem_append.mp hx with hx | hx
      · obtain ⟨k, hk, rfl⟩ := List.mem_map.mp hx
        exact Rw.hr k (by simpa using hk)
      · rw [List.mem_singleton.mp hx]; decide
    by_cases hc : n = 0 ∨ s ≤ n
    · refine R.wp_of (Q := fun b env => b = true ∧ env = [some w4, some (.tup (vs.map W.int)), some (.lst .frz (tabI n r)), a3, a4, a5, a6, a7, a8, some (.int s), none, none, none, none, none, none, none]) ?_ ?_
      · by_cases h0 : vs = []
        · simp [h0]
        · have h1 : 0 < vs.length := List.length_pos_iff.mpr h0
          have h2 : s ≤ vs.length := by omega
          simp [h0, h2]
      · rintro _ _ ⟨rfl, rfl⟩
        obtain ⟨M, hM⟩ : ∃ M, N + 500 + 2 * 4 + 1 = M := ⟨_, rfl⟩
        rw [hM] at p4
        have q1 : M < 2 ^ 40 := by omega
        have q2 : n ≤ 200 := by omega
        have q3 : s ≤ 200 := by omega
        with_reducible have e0 := crowds_spec (n := n) (s := s) p4 q1 q2 hs1.1 q3 hc
        simp [p4.lst, hn]
        with_reducible refine R.wp_of e0 ?_
        rintro _ _ ⟨cs, w5, rfl, C, rfl, p5⟩
        have hm := C.many (by omega)
        simp [p5.lst]
        rw [map_tab (l := cs) (g := tupI) []]
        refine comp_st (α := Int) (s0 := w5) W.int (fun w => [some w, some (.tup (vs.map W.int)), some (.lst .frz (tabI n r)), a3, a4, a5, a6, a7, a8, some (.int s), some (.tup (tabW cs.length fun k => tupI (cs.getD k []))), none, none, none, none, none, none])
          (fun k w => Pot (M + 1000 + 2 * k) w) (fun x => lt2 22 x) p5 (by omega) (fun k w6 hk p6 => ?_) ?_
        · simp [p6.lst, hr1]
          refine ⟨by omega, R.wp_of (of_ints p6 (by omega) hr2.1 hr2.2) ?_⟩
          rintro _ _ ⟨o, w7, rfl, ho, rfl, p7⟩
          have ho2 := hr3 o ho
          simp [p7.lst]
          refine R.wp_of (take_spec p7 (by omega) (by omega) (by omega)) ?_
          rintro _ _ ⟨j, w8, rfl, j0, j1, rfl, p8⟩
          simp [p8.lst]
          exact ⟨by unfold lt2 at *; omega, p8.mono (by omega)⟩
        · rw [← map_tab (l := cs) (g := tupI) []]
          intro sh w6 hsh hshv p6
          simp [p6.lst]
          rw [zip_co]
          have hz : (List.zip cs sh).length ≤ 200 := by rw [List.length_zip]; omega
          refine O.wp_of (N0 := LI vs n r a3 a4 a5 a6 a7 a8 s cs sh w6 (cLoss vs cs sh)) (forL_wp (fun k => LI vs n r a3 a4 a5 a6 a7 a8 s cs sh w6 (((List.zip cs sh).take k).map fun p => pLoss vs p.1 p.2).sum) ⟨rfl, none, none, rfl⟩ ?_ ?_) ?_
          · rintro k x ro env hx ⟨rfl, c13, c14, rfl⟩
            rw [List.getElem?_map] at hx
            obtain ⟨p, hp1, rfl⟩ := Option.map_eq_some_iff.mp hx
            have hst := zip_take (f := fun p => pLoss vs p.1 p.2) hp1
            rw [hst]
            have hc := mem_zip_l (List.mem_of_getElem? hp1)
            generalize (((List.zip cs sh).take k).map fun p => pLoss vs p.1 p.2).sum = S at *
            have hl := C.len_le hc
            have hr := C.rg hc
            obtain ⟨c, o⟩ := p
            have htup : tupI c = .tup (c.map W.int) := rfl
            simp [coW, htup]
            refine comp_lfm (l := c) (g := W.int) (fun x => some (.int (LineM.iabs (vs.getD x.toNat 0 - o)))) (by dsimp only at hl; omega) (fun x hx => ?_) ?_
            · have := hr x hx
              simp [at_ints (vs := vs) this.1 (by omega), LineM.iabs]
            rw [fm_some]
            simp
            exact ⟨rfl, _, _, by simp [pLoss]; exact ⟨rfl, rfl⟩⟩
          · intro ro env h
            rw [List.length_map, List.take_length] at h
            exact h
          · rintro ro env ⟨rfl, c13, c14, rfl⟩
            have hll := line_loss_eq C q2 hs1.1 q3 hn hv hsh
            have rp := repr_int (cLoss_lt hv hshv (by omega) fun c hc => Nat.le_trans (C.len_le hc) q2)
            generalize cLoss vs cs sh = S at *
            simp [p6.lst, no17, hll, rp]
            refine ⟨by decide, by omega, ?_⟩
            rw [hr1]
            refine R.wp_of (of_ints p6 (by omega) hr2.1 hr2.2) ?_
            rintro _ _ ⟨o, w7, rfl, ho, rfl, p7⟩
            simp [p7.lst]
            refine R.wp_of (take_spec p7 (by omega) (by omega) (by omega)) ?_
            rintro _ _ ⟨j, w8, rfl, j0, j1, rfl, p8⟩
            simp [p8.lst]
            generalize hvv : (if -1000000 < (if o + j - 4 < 1000000 then o + j - 4 else 1000000) then (if o + j - 4 < 1000000 then o + j - 4 else 1000000) else (-1000000 : Int)) = v
            have hvok : vok v := by
              rw [← hvv]; unfold vok
              split <;> split <;> omega
            refine ⟨by omega, ?_⟩
            obtain ⟨r', Rw'⟩ : ∃ r', Row (vs ++ [v]) (n + 1) r' := by
              have := Row.mk' (ns := vs ++ [v]) (fun x h => lt2_of (by
                rcases List.mem_append.mp h with h | h
                · have := hv x h; unfold vok at this; omega
                · rw [List.mem_singleton.mp h]; unfold vok at hvok; omega) (by
                rcases List.mem_append.mp h with h | h
                · have := hv x h; unfold vok at this; omega
                · rw [List.mem_singleton.mp h]; unfold vok at hvok; omega)) (by rw [List.length_append, List.length_singleton]; omega)
              rw [List.length_append, List.length_singleton, hn] at this
              exact ⟨_, this⟩
            have l1 := law_least_eq Rw (s := s) hs1.1 (by omega)
            have l2 := law_least_eq Rw' (s := s) hs1.1 (by omega)
            have e1 : ∃ m, FA r s n = some m := by
              rcases hc with h0 | h0
              · rw [h0]; exact ⟨0, rfl⟩
              · obtain ⟨m, hm, _⟩ := LineM.F_whole (L := LineM.loss r) hs1.1 h0
                exact ⟨m, hm⟩
            obtain ⟨m, e1⟩ := e1
            have om := fun m' e2 => one_more_eq (m' := m') Rw Rw' hv hvok (by omega) hs1.1 q3 hc e1 e2
            have f1 := fun m he => Rw.F_lt (m := m) hs1.1 (Nat.le_refl n) he
            have f2 := fun m he => Rw'.F_lt (m := m) hs1.1 (Nat.le_refl (n + 1)) he
            rw [List.map_append] at l2
            simp at l2
            simp [l2]
            cases e2 : FA r' s (n + 1) with
            | none =>
              simp [p8.lst]
              exact p8.mono (by omega)
            | some m' =>
              have o1 := om m' e2
              have g1 := f1 m e1
              have g2 := f2 m' e2
              have rp := repr_int (i := m' - m) (lt2_mono (k := 36) (by unfold lt2 at *; omega) (by omega))
              rw [e1] at l1
              rw [e2] at l2
              simp at l1 l2
              simp [p8.lst, l1, l2, o1, rp]
              exact ⟨by omega, p8.mono (by omega)⟩
    · refine R.wp_of (Q := fun b env => b = false ∧ env = [some w4, some (.tup (vs.map W.int)), some (.lst .frz (tabI n r)), a3, a4, a5, a6, a7, a8, some (.int s), none, none, none, none, none, none, none]) ?_ ?_
      · have h0 : vs ≠ [] := fun h => hc (.inl (by rw [← hn, h]; rfl))
        have h1 : ¬ (s ≤ vs.length) := by omega
        simp [h0, h1]
      · rintro _ _ ⟨rfl, rfl⟩
        simp [p4.lst]
        exact p4.mono (by omega)
end LW
set_option Elab.async false
set_option linter.all false
set_option maxRecDepth 100000
set_option maxHeartbeats 4000000
namespace LW
open PySem L2 VL
theorem law_spec {ns : List Int} : (F_law.run [.lst .frz (ns.map W.int)]).wp (fun d _ => d = .bl true) noX := by
  obtain ⟨k, hk, hc⟩ := cells_spec (ns := ns) (m := 2) (by omega) (by omega)
  rw [show ((2 : Nat) : Int) = 2 from rfl] at hc
  with_reducible refine wp_law ?_
  simp [ir_law, hc]
  refine forL_wp (fun j ro env => ro = [none, none, none, none] ∧ ∃ a b, env = [some (.lst .frz (ns.map W.int)), a, b, none]) ⟨rfl, none, none, rfl⟩ ?_ ?_
  · rintro j x ro env hx ⟨rfl, a, b, rfl⟩
    obtain ⟨hj, rfl⟩ := tabW_in hx
    simp
    refine R.wp_of (pot_spec (show j < 4 by omega)) ?_
    rintro _ _ ⟨hp, rfl⟩
    simp [hp.lst]
    refine comp_st (α := Bool) (n := 3) W.bl (fun w => [some (.lst .frz (ns.map W.int)), some (.int j), some w, none]) (fun k w => Pot (3000 * k) w) (fun x => x = true) (hp.mono (by omega)) (by omega) (fun k w3 hk p3 => ?_) ?_
    · have := p3.lst
      simp [this]
      refine R.wp_of (right_spec p3 (by omega)) ?_
      rintro _ _ ⟨rfl, w4, rfl, p4⟩
      simp [p4.lst]
      exact p4.mono (by omega)
    · intro xs w4 _ hx p4
      have : xs.all id = true := List.all_eq_true.mpr fun x h => by rw [hx x h]; rfl
      simp [this]
  · rintro ro env ⟨rfl, a, b, rfl⟩
    simp
theorem plain : ∀ ns : List Int, ns.length ≤ 63 → ∃ bs, F_law.run [.lst .frz (ns.map W.int)] = .ok (.bl true) bs := fun ns _ => by
  have h := law_spec (ns := ns)
  cases e : F_law.run [.lst .frz (ns.map W.int)] with
  | ok w bs => rw [e] at h; exact ⟨bs, by rw [show w = .bl true from h]⟩
  | ex c w bs => rw [e] at h; exact h.elim
  | bad => rw [e] at h; exact h.elim
end LW
open PySem PySem.W PyProof.Rows
set_option maxHeartbeats 0 in
theorem PySem.Challenge.cw_alikecrowds_k25_stretches_losses_and_one_holds : PySem.Challenge.rw_alikecrowds_k25_stretches_losses_and_one.Holds := by
  w_on; o_law; k_head; (case hw => w_witness2)
  k_fill
  refine VL.walkE (l := PySem.Challenge.rw_alikecrowds_k25_stretches_losses_and_one) (k := 9) rfl rfl ⟨rfl, by decide, by decide⟩ (fun w => ?hk) (fun w h Y => PySem.W.kIn_of Y) ?F
  case hk => kernel_rfl
  case F =>
    intro w mg fa h KX G hmg
    refine' LW.all_mk LW.plain KX G hmg ?aC0 ?pg0 ?hd0 ?po0 ?sa0 ?mk0 ?kc0 ?n0_0 ?n0_1 ?a0 ?l0 ?c0 ?k0 ?a1 ?i1 ?l1 ?c1 ?k1 ?a2 ?i2 ?l2 ?c2 ?k2 ?a3 ?l3 ?c3 ?k3 ?a4 ?l4 ?c4 ?k4 ?a5 ?l5 ?c5 ?k5 ?a6 ?l6 ?c6 ?k6 ?a7 ?l7 ?c7 ?k7 ?a8 ?l8 ?c8 ?k8 ?a9 ?l9 ?c9 ?k9 ?a10 ?l10 ?c10 ?k10 ?a11 ?i11 ?l11 ?c11 ?k11 ?a12 ?l12 ?c12 ?k12 ?a13 ?l13 ?c13 ?k13 ?a14 ?l14 ?c14 ?k14 ?a15 ?l15 ?c15 ?k15 ?a16 ?l16 ?c16 ?k16 ?a17 ?i17 ?l17 ?c17 ?k17 ?a18 ?l18 ?c18 ?k18 ?a19 ?l19 ?c19 ?k19 ?a20 ?l20 ?c20 ?k20 ?a21 ?l21 ?c21 ?k21 ?a22 ?l22 ?c22 ?k22 ?a23 ?l23 ?c23 ?k23 ?a24 ?l24 ?c24 ?k24 ?a25 ?l25 ?c25 ?k25 ?a26 ?l26 ?c26 ?k26 ?a27 ?l27 ?c27 ?k27 ?a28 ?l28 ?c28 ?k28 ?a29 ?l29 ?c29 ?k29 ?a30 ?l30 ?c30 ?k30 ?a31 ?l31 ?c31 ?k31 ?gv0 ?gv1 ?z0 ?z1 ?z2 ?z3 ?z4 ?z5 ?z6 ?z7 ?z8 ?z9 ?z10 ?z11 ?z12 ?z13 ?z14 ?z15
    (case aC0 => k_is)
    (case pg0 => k_is)
    (case hd0 => k_is)
    (case po0 => k_is)
    (case sa0 => k_is)
    (case mk0 => k_is)
    (case kc0 => k_is)
    (case n0_0 => k_is)
    (case n0_1 => k_is)
    (case a0 => k_is)
    (case l0 => k_is)
    (case c0 => k_is)
    (case k0 => k_is)
    (case a1 => k_is)
    (case i1 => k_is)
    (case l1 => k_is)
    (case c1 => k_is)
    (case k1 => k_is)
    (case a2 => k_is)
    (case i2 => k_is)
    (case l2 => k_is)
    (case c2 => k_is)
    (case k2 => k_is)
    (case a3 => k_is)
    (case l3 => k_is)
    (case c3 => k_is)
    (case k3 => k_is)
    (case a4 => k_is)
    (case l4 => k_is)
    (case c4 => k_is)
    (case k4 => k_is)
    (case a5 => k_is)
    (case l5 => k_is)
    (case c5 => k_is)
    (case k5 => k_is)
    (case a6 => k_is)
    (case l6 => k_is)
    (case c6 => k_is)
    (case k6 => k_is)
    (case a7 => k_is)
    (case l7 => k_is)
    (case c7 => k_is)
    (case k7 => k_is)
    (case a8 => k_is)
    (case l8 => k_is)
    (case c8 => k_is)
    (case k8 => k_is)
    (case a9 => k_is)
    (case l9 => k_is)
    (case c9 => k_is)
    (case k9 => k_is)
    (case a10 => k_is)
    (case l10 => k_is)
    (case c10 => k_is)
    (case k10 => k_is)
    (case a11 => k_is)
    (case i11 => k_is)
    (case l11 => k_is)
    (case c11 => k_is)
    (case k11 => k_is)
    (case a12 => k_is)
    (case l12 => k_is)
    (case c12 => k_is)
    (case k12 => k_is)
    (case a13 => k_is)
    (case l13 => k_is)
    (case c13 => k_is)
    (case k13 => k_is)
    (case a14 => k_is)
    (case l14 => k_is)
    (case c14 => k_is)
    (case k14 => k_is)
    (case a15 => k_is)
    (case l15 => k_is)
    (case c15 => k_is)
    (case k15 => k_is)
    (case a16 => k_is)
    (case l16 => k_is)
    (case c16 => k_is)
    (case k16 => k_is)
    (case a17 => k_is)
    (case i17 => k_is)
    (case l17 => k_is)
    (case c17 => k_is)
    (case k17 => k_is)
    (case a18 => k_is)
    (case l18 => k_is)
    (case c18 => k_is)
    (case k18 => k_is)
    (case a19 => k_is)
    (case l19 => k_is)
    (case c19 => k_is)
    (case k19 => k_is)
    (case a20 => k_is)
    (case l20 => k_is)
    (case c20 => k_is)
    (case k20 => k_is)
    (case a21 => k_is)
    (case l21 => k_is)
    (case c21 => k_is)
    (case k21 => k_is)
    (case a22 => k_is)
    (case l22 => k_is)
    (case c22 => k_is)
    (case k22 => k_is)
    (case a23 => k_is)
    (case l23 => k_is)
    (case c23 => k_is)
    (case k23 => k_is)
    (case a24 => k_is)
    (case l24 => k_is)
    (case c24 => k_is)
    (case k24 => k_is)
    (case a25 => k_is)
    (case l25 => k_is)
    (case c25 => k_is)
    (case k25 => k_is)
    (case a26 => k_is)
    (case l26 => k_is)
    (case c26 => k_is)
    (case k26 => k_is)
    (case a27 => k_is)
    (case l27 => k_is)
    (case c27 => k_is)
    (case k27 => k_is)
    (case a28 => k_is)
    (case l28 => k_is)
    (case c28 => k_is)
    (case k28 => k_is)
    (case a29 => k_is)
    (case l29 => k_is)
    (case c29 => k_is)
    (case k29 => k_is)
    (case a30 => k_is)
    (case l30 => k_is)
    (case c30 => k_is)
    (case k30 => k_is)
    (case a31 => k_is)
    (case l31 => k_is)
    (case c31 => k_is)
    (case k31 => k_is)
    (case gv0 => k_is)
    (case gv1 => k_is)
    (case z0 => k_is)
    (case z1 => k_is)
    (case z2 => k_is)
    (case z3 => k_is)
    (case z4 => k_is)
    (case z5 => k_is)
    (case z6 => k_is)
    (case z7 => k_is)
    (case z8 => k_is)
    (case z9 => k_is)
    (case z10 => k_is)
    (case z11 => k_is)
    (case z12 => k_is)
    (case z13 => k_is)
    (case z14 => k_is)
    (case z15 => k_is)
